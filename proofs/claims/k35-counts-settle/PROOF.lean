import PyProof.Rows.All
import Wide.All
import OpenK.AllK
import Wide.FinOn
import HandS.ForMost
import HandS.ForExc
import HandS.TupAny
import HandS.IsInst
import HandS.Conv
import HandS.Defaults
import HandS.WideBits
import HandS.SortInts
import HandS.Slots
import HandS.Flow
import HandS.SlotsOwn
import HandS.Exc
import HandS.ExcOwn
import HandS.CallSlots
import HandS.ExcInit
import HandS.ExcIs
import KE.KExcIs
import KE.KExcSuper
import HandS.Head0
import HandS.Head1
import HandS.Head2
import HandS.HeadEnd
import HandS.HeadHook1
import HandS.HeadHook2
import KE.GoesEnum
import HandS.ExcField
import HandS.WideBits
import PyProof.StrReplace2
import KE.KOpsOwn
import HandS.Iter
import HandS.OwnEq
import HandS.Defaults
import HandS.MakeKwOnly
import HandS.TryOnly
import KE.SortCalls
import HandS.GenList
import HandS.Zip
import HandS.Strs
import HandS.TupSets
import PyProof.Rows.SetFrom
import PyProof.AutoSeq1
import PyProof.Rows.ChunkEnd
import HandS.IterNext
import HandS.OwnIter
import PyProof.NeKinds
import KE.SortData
import HandS.Deep
import HandS.Wide
import HandS.TryMany
import PyProof.WalksMore
import HandS.Text
import HandS.SortKw
import KE.DatumOrd
import HandS.MakeKw
import HandS.Dict
import HandS.DictComp
import HandS.More
import HandS.Small
import HandS.Star
import HandS.Conv
import KE.KDictPairs
import OpenK.KOps
import HandS.Nested
import KE.KSuper
import HandS.Style
import KE.OsArith
import KE.BitLaws
import KE.KDictDisplayH
import HandS.SetTxt0
import HandS.SetFor
import KE.KDictCopyH
import HandS.SetKeys
import HandS.TupLen
import HandS.DictTup
import HandS.Rev
import KE.GoesZip
import KE.GoesMore
import KE.KCallOwn
import PyProof.SeqIndex
import KE.DataCmp
import KE.KOwnCellsLaws
import PySem.Challenge.RW_slicedcolumns_k35_whole_counts_settle
set_option Elab.async false
set_option linter.all false
set_option maxRecDepth 100000
set_option maxHeartbeats 4000000
namespace S
open PySem PySem.Spec PyProof.Rows L2
abbrev Frag := PySem.W.Frag
def nth : L2.St → Nat → Option V
  | [], _ => none
  | x :: _, 0 => x
  | _ :: r, n + 1 => nth r n
end S
namespace S
open PySem PySem.Spec PyProof.Rows L2
def nmB (K : Frag) (y : Str) : Bool := match PySem.W.clsIn K (He.ga K y) with
  | some cd => decide (cd.name = y)
  | none => false
def mfB (K : Frag) (x : Str) (ups : List Str) (tys : List String) : Bool := (match PySem.W.clsIn K (He.ga K x) with
  | some cd => decide (cd.name = x) && decide (cd.mro = (x :: ups).map (fun y => Value.ref (He.ga K y)) ++ tys.map Value.type)
  | none => false) && (ups.all (nmB K) && decide (PySem.W.typeIn K (.ref (He.ga K x)) = some (.type "type")))
def sclsB (K : Frag) (C : Addr) : Bool := PySem.W.plainGet K C Str.empty && (PySem.W.isClsIn K C && (PySem.W.plainOver K C && He.eqO (PySem.W.findIn K (.ref C) "__setattr__") (some (some (.builtin "object.__setattr__")))))
def sisiB (K : Frag) (C : Addr) : Bool := He.eqO (PySem.W.findIn K (.ref C) "__class__") (some (some (.builtin "object.__class__"))) && (He.eqO (PySem.W.specialIn K (.builtin "object.__class__") "__get__") (some (some (.builtin "getset_descriptor.__get__"))) &&
  (decide (PySem.W.takesIn K (.builtin "object.__class__") = some true) && decide (PySem.W.mroIn K C (.type "object") = some true)))
def slotB (K : Frag) (C : Addr) (f : Str) (p : Addr) (i : Nat) : Bool := He.eqO (PySem.W.findIn K (.ref C) f) (some (some (.ref p))) && (He.eqO (PySem.W.specialIn K (.ref p) "__get__") (some (some (.builtin "member_descriptor.__get__"))) &&
  (decide (PySem.W.takesIn K (.ref p) = some true) && (decide (PySem.W.typeIn K (.ref p) = some (.type "member_descriptor")) && (decide (PySem.W.slotIn K p C = some i) && decide (i < 1000)))))
def slotsB (K : Frag) (C : Addr) : List Str → Nat → Bool
  | [], _ => true
  | f :: r, i => slotB K C f (He.ma K C f) i && slotsB K C r (i + 1)
def cfB (x : Str) (fs : List Str) (K : Frag) : Bool := mfB K x [] ["object"] && (sclsB K (He.ga K x) && (sisiB K (He.ga K x) && slotsB K (He.ga K x) fs 0))
def veTys : List String := ["ValueError", "Exception", "BaseException", "object"]
def excB (K : Frag) (D : Addr) : Bool := He.eqO (PySem.W.findIn K (.ref D) "__getattribute__") (some (some (.builtin "BaseException.__getattribute__"))) && (He.eqO (PySem.W.findIn K (.ref D) "__getattr__") (some none) && (decide (PySem.W.subIn K (.ref D) (.type "BaseException") = some true) &&
  (PySem.W.hasDictIn K D && (He.eqO (PySem.W.findIn K (.ref D) "__class__") (some (some (.builtin "object.__class__"))) && (He.eqO (PySem.W.specialIn K (.builtin "object.__class__") "__get__") (some (some (.builtin "getset_descriptor.__get__"))) &&
  (decide (PySem.W.takesIn K (.builtin "object.__class__") = some true) && decide (PySem.W.mroIn K D (.type "object") = some true)))))))
def exfB (x : Str) (ups : List Str) (K : Frag) : Bool := mfB K x ups veTys && excB K (He.ga K x)
def rsB (x : Str) (K : Frag) : Bool := (He.Fa.exc x).ok K
def empA (K : Frag) (a : Addr) : Bool := match K.lookup a with
  | some ⟨.type c, _, .seq its _, _⟩ => decide (c = "tuple") && decide (its = #[])
  | _ => false
def empB (K : Frag) (v : V) : Bool := match v with
  | .ref a => empA K a
  | _ => false
def uA (K : Frag) (c m : Str) : Addr := match PySem.W.recIn K (He.ma K (He.ga K c) m) "property" with
  | some (.ref g :: _) => g
  | _ => (match PySem.W.recIn K (He.ma K (He.ga K c) m) "staticmethod" with
    | some (.ref g :: _) => g
    | _ => 0)
def propB (c f : Str) (K : Frag) : Bool := He.eqO (PySem.W.findIn K (.ref (He.ga K c)) f) (some (some (.ref (He.ma K (He.ga K c) f)))) && (He.eqO (PySem.W.specialIn K (.ref (He.ma K (He.ga K c) f)) "__get__") (some (some (.builtin "property.__get__"))) &&
  (decide (PySem.W.takesIn K (.ref (He.ma K (He.ga K c) f)) = some true) && (match PySem.W.recIn K (He.ma K (He.ga K c) f) "property" with
    | some (.ref g :: _) => decide (g = uA K c f)
    | _ => false)))
structure DfX where
  ad : Frag → Addr
  name : Str
  qual : Str
  params : Arguments
  body : List Stmt
  scope : Scope
  dfl : List He.Dv := []
  kwd : List (Str × He.Dv) := []
  clo : List Str := []
def fnX (K : Frag) (a : Addr) : He.FnW := match K.lookup a with
  | some ⟨_, _, .func fd, _⟩ => some (fd.name, fd.qualname, fd.params, fd.body, fd.scope, fd.globals, fd.closure.map (fun c => (c.1, (0 : Addr))), fd.builtins)
  | _ => none
def DfX.val (d : DfX) : He.FnW := some (d.name, d.qual, d.params, .stmts d.body, d.scope, mainGlobals, d.clo.map (fun n => (n, (0 : Addr))), builtinsNs)
def DfX.dvs (K : Frag) (d : DfX) : List V := d.dfl.map (He.Dv.v K)
def DfX.kws (K : Frag) (d : DfX) : List (Str × V) := d.kwd.map fun q => (q.1, q.2.v K)
def DfX.ok (K : Frag) (d : DfX) : Bool := PySem.W.keepIn K (.ref (d.ad K)) && (match K.lookup (d.ad K) with
  | some ⟨_, _, .func fd, _⟩ => PySem.W.codeIn K fd.code d.qual && (He.dflB K fd.defaults (d.dvs K) && He.kwdB K fd.kwdefaults (d.kws K))
  | _ => false)
abbrev AlX : Type := Bool × List He.FnW
def obsK (fa : List He.Fa) (fx : List (Frag → Bool)) (fn : List DfX) (K : Frag) : AlX := ((fa.all fun f => f.ok K) && ((fx.all fun f => f K) && fn.all fun d => d.ok K), fn.map fun d => fnX K (d.ad K))
def valX (fn : List DfX) : AlX := (true, fn.map DfX.val)
def SaysX (fa : List He.Fa) (fx : List (Frag → Bool)) (fn : List DfX) (K : Frag) : Prop := obsK fa fx fn K = valX fn
end S
namespace S
open PySem PySem.Spec PyProof.Rows L2
def statB (c m : Str) (K : Frag) : Bool := PySem.W.readsIn K (He.ga K c) (.type "type") && (He.eqO (PySem.W.specialIn K (.ref (He.ga K c)) "__getattribute__") (some (some (.builtin "type.__getattribute__"))) &&
  ((match PySem.W.findCls K (.ref (He.ga K c)) (.type "type") m with
    | some (.get (.builtin g) (.ref p) .none (.ref D)) => decide (g = "staticmethod.__get__") && (decide (p = He.ma K (He.ga K c) m) && decide (D = He.ga K c))
    | _ => false) && ((match PySem.W.recIn K (He.ma K (He.ga K c) m) "staticmethod" with
    | some (.ref g :: _) => decide (g = uA K c m)
    | _ => false) && PySem.W.keepIn K (.ref (uA K c m)))))
end S
namespace S
open PySem PySem.Spec PyProof.Rows L2
def oexB (c : Str) (K : Frag) : Bool := (match K.lookup (He.ga K c) with
  | some ⟨.type "type", _, .cls cd, sl⟩ => (match cd.mro, sl.toList with
    | .ref C' :: bm, [_, _, _, _, some (.builtin n), _] => C' == He.ga K c && n == "ValueError.__new__" && !cd.hasDel && cd.hasDict && PySem.HandSPX.refsVE bm
    | _, _ => false)
  | _ => false) && (He.eqO (PySem.W.findIn K (.ref (He.ga K c)) "__setattr__") (some (some (.builtin "object.__setattr__"))) && (decide (PySem.W.subIn K (.ref (He.ga K c)) (.type "BaseException") = some true) &&
    (decide (PySem.W.typeIn K (.ref (He.ga K c)) = some (.type "type")) && PySem.W.keepIn K (.ref (He.ga K c)))))
def xffB (c fld : Str) (K : Frag) : Bool := xfB K (He.ga K c) && decide (PySem.W.findIn K (.ref (He.ga K c)) fld = some none)
def cellTo (K : Frag) (cc C : Addr) : Bool := match K.lookup cc with
  | some ⟨_, _, .cell (some (.ref D)), _⟩ => decide (D = C)
  | _ => false
def codeFile (P : Program) (K : Frag) (cda : Addr) : Bool := match K.lookup cda with
  | some ⟨_, _, .fields vs, _⟩ => (match (vs[2]? : Option Value) with
    | some (.str file _) => ((P.main.file : Str) == file)
    | _ => false)
  | _ => false
def cloB (P : Program) (K : Frag) (C : Addr) (code : Value) (clo : List (Str × Addr)) : Bool := match code, clo with
  | .ref cda, [(_, cc)] => cellTo K cc C && codeFile P K cda
  | _, _ => false
def fnB (P : Program) (K : Frag) (C fI : Addr) : Bool := match K.lookup fI with
  | some ⟨_, _, .func fd, _⟩ => PySem.W.codeIn K fd.code fd.qualname && (He.dflB K fd.defaults [] && cloB P K C fd.code fd.closure)
  | _ => false
def xiB (P : Program) (c fld : Str) (K : Frag) : Bool := fnB P K (He.ga K c) (He.fAd K (c, some "__init__")) && (decide (PySem.W.mroIn K (He.ga K c) (.ref (He.ga K c)) = some true) && (He.eqO (PySem.W.ks_superIn K (He.ga K c) (He.ga K c) "__init__") (some (some (.builtin "ValueError.__init__"))) &&
    (decide (PySem.W.subIn K (.ref (He.ga K c)) (.type "ValueError") = some true) && (decide (PySem.W.nsIn K cStatics "thirdparty.any" = some none) && (oexB c K && (decide (PySem.W.findIn K (.ref (He.ga K c)) fld = some none) &&
    (He.eqO (PySem.W.findIn K (.ref (He.ga K c)) "__init__") (some (some (.ref (He.fAd K (c, some "__init__"))))) && (decide (PySem.W.typeIn K (.ref (He.fAd K (c, some "__init__"))) = some (.type "function")) && !(P.main.scope.names.lookup ("super" : Str)).isSome))))))))
end S
namespace S
open PySem PySem.Spec PyProof.Rows L2
def nsG (g : Addr → Option Obj) (ns : Addr) (x : Str) : List Addr := match g ns with
  | some ⟨_, _, .dict es _, _⟩ => (match es.toList.find? (·.key.isStr x) with
    | some e => He.refV e.val
    | none => [])
  | _ => []
def rfY (o : Obj) : List Addr := match o.data with
  | .cls cd => [cd.ns]
  | .func fd => He.refV fd.code ++ (He.refV fd.defaults ++ (He.refV fd.kwdefaults ++ fd.closure.map (·.2)))
  | .dict es _ => es.toList.flatMap fun e => He.refV e.val
  | .seq its _ => its.toList.flatMap He.refV
  | .fields vs => (match o.cls == .type "code" with
    | true => []
    | false => vs.toList.flatMap He.refV)
  | _ => []
def stepY (g : Addr → Option Obj) (as : List Addr) : List Addr := as.flatMap fun a => match g a with
  | some o => rfY o
  | none => []
def lvY (g : Addr → Option Obj) : Nat → List Addr → List Addr
  | 0, as => as
  | n + 1, as => as ++ lvY g n (stepY g as)
def asY (names : List Str) (g : Addr → Option Obj) : List Addr := mainGlobals :: cStatics :: lvY g 4 (names.flatMap (nsG g mainGlobals))
def obsYG (names : List Str) (fa : List He.Fa) (fx : List (Frag → Bool)) (fn : List DfX) (g : Addr → Option Obj) : AlX := obsK fa fx fn (He.frG g (asY names g))
def hookY (names : List Str) (fa : List He.Fa) (fx : List (Frag → Bool)) (fn : List DfX) : PySem.W.Hook where
  α := AlX
  obs := fun s => obsYG names fa fx fn s.heap.get?
  val := fun _ => valX fn
  says := fun _ h => ∃ K : Frag, K.In h ∧ SaysX fa fx fn K
  of := fun _ _ e => ⟨_, He.frG_in, e⟩
  keeps := fun _ _ _ ⟨K, hK, c⟩ k => ⟨K, PySem.W.Frag.In.keeps hK k, c⟩
theorem obsYG_eq {names : List Str} {fa : List He.Fa} {fx : List (Frag → Bool)} {fn : List DfX} {g : Addr → Option Obj} {s : Shared} (h : ∀ a, g a = s.heap.get? a) : obsYG names fa fx fn g = (hookY names fa fx fn).obs s := by
  have e : g = s.heap.get? := funext h
  rw [e] <;> rfl
theorem run_parts {σ β : Type} {o : Option σ} {l : σ → Bool} {g : σ → β} {v2 : β} {K : σ → Frag} {fa : List He.Fa} {fx : List (Frag → Bool)} {fn : List DfX} {ob : σ → AlX} (n m : Nat) (hob : ∀ s, ob s = obsK fa fx fn (K s)) (h1 : o.map (fun s => (l s, g s)) = some (true, v2))
    (h3 : o.map (fun s => fa.all fun f => f.ok (K s)) = some true) (h4 : o.map (fun s => fx.all fun f => f (K s)) = some true) (h5 : o.map (fun s => (fn.take n).all fun d => d.ok (K s)) = some true) (h6 : o.map (fun s => ((fn.drop n).take m).all fun d => d.ok (K s)) = some true)
    (h7 : o.map (fun s => ((fn.drop n).drop m).all fun d => d.ok (K s)) = some true) (h8 : o.map (fun s => fn.map fun d => fnX (K s) (d.ad (K s))) = some (fn.map DfX.val)) : o.map (fun s => (l s, g s, ob s)) = some (true, v2, valX fn) := by
  cases o with
  | none => cases h1
  | some s =>
    have e1 : (l s, g s) = (true, v2) := Option.some.inj h1
    obtain ⟨e3, e4⟩ := Prod.mk.inj e1
    have a3 : (fa.all fun f => f.ok (K s)) = true := Option.some.inj h3
    have a4 : (fx.all fun f => f (K s)) = true := Option.some.inj h4
    have a5 : ((fn.take n).all fun d => d.ok (K s)) = true := Option.some.inj h5
    have a6 : (((fn.drop n).take m).all fun d => d.ok (K s)) = true := Option.some.inj h6
    have a7 : (((fn.drop n).drop m).all fun d => d.ok (K s)) = true := Option.some.inj h7
    have a8 : (fn.map fun d => fnX (K s) (d.ad (K s))) = fn.map DfX.val := Option.some.inj h8
    have b : (fn.all fun d => d.ok (K s)) = true := by
      rw [← List.take_append_drop n fn, List.all_append, a5, ← List.take_append_drop m (fn.drop n), List.all_append, a6, a7] <;> rfl
    show some (l s, g s, ob s) = _
    rw [e3, e4, hob, obsK, a3, a4, b, a8]
    rfl
end S
namespace S
open PySem PySem.Spec PyProof.Rows L2
def dfB (x : Str) (ups fs : List Str) (K : Frag) : Bool := mfB K x ups ["object"] && ((He.Fa.cls x).ok K && (He.eqO (PySem.W.findIn K (.ref (He.ga K x)) "__class__") (some (some (.builtin "object.__class__"))) && (He.eqO (PySem.W.specialIn K (.builtin "object.__class__") "__get__") (some (some (.builtin "getset_descriptor.__get__"))) &&
  (decide (PySem.W.takesIn K (.builtin "object.__class__") = some true) && (decide (PySem.W.mroIn K (He.ga K x) (.type "object") = some true) && fs.all fun f => He.eqO (PySem.W.findIn K (.ref (He.ga K x)) f) (some none))))))
end S
namespace S
open PySem PySem.Spec PyProof.Rows L2 GenW


end S


namespace S
open PySem PySem.Spec PyProof.Rows L2
def sp_law (K : Frag) : Sp := fun vs H Q _ => ∃ (a : Addr) (ns : List Int), vs = [.ref a] ∧ SqL K H a (ns.map V.int) ∧ ∀ H', Q (.bl true) H'
def top (i : Nat) : Stmt := PySem.Challenge.pw_slicedcolumns_k35_whole_counts_settle.main.body.getD i (.Pass ⟨0, 0, 0, 0⟩)
abbrev s__law_draw : Stmt := top 36
abbrev s__law_wide : Stmt := top 37
abbrev s__law_size : Stmt := top 38
abbrev s__law_ends : Stmt := top 39
abbrev s__law_places : Stmt := top 43
abbrev s__law_in : Stmt := top 40
abbrev s__law_rotated : Stmt := top 49
abbrev s__law_ones : Stmt := top 46
abbrev s__law_rows_of : Stmt := top 44
abbrev s__law_number_at : Stmt := top 45
abbrev s__law_numbers : Stmt := top 47
abbrev s_Summarydd_initdd : Stmt := inClass (top 34) 0
abbrev s_Summary_outside : Stmt := inClass (top 34) 3
abbrev s_Summary_steps : Stmt := inClass (top 34) 4
abbrev s_Summary_ranges : Stmt := inClass (top 34) 5
abbrev s_Summary_bounds : Stmt := inClass (top 34) 6
abbrev s__law_passes : Stmt := top 50
abbrev s_weight_of : Stmt := top 21
abbrev s_Summary_total : Stmt := inClass (top 34) 2
abbrev s_Summary_reach : Stmt := inClass (top 34) 9
abbrev s_Summary_kth_bounds : Stmt := inClass (top 34) 10
abbrev s__law_at_index : Stmt := top 48
abbrev s_turned : Stmt := top 13
abbrev s_Bitmapdd_initdd : Stmt := inClass (top 19) 1
abbrev s_Bitmap_full : Stmt := inClass (top 19) 3
abbrev s_Bitmap_rank : Stmt := inClass (top 19) 8
abbrev s_Bitmap_ones : Stmt := inClass (top 19) 7
abbrev s_Bitmap_runs : Stmt := inClass (top 19) 13
abbrev s_Bitmap_nth : Stmt := inClass (top 19) 9
abbrev s_Bitmap_span : Stmt := inClass (top 19) 4
abbrev s_next_end : Stmt := top 11
abbrev s_swept : Stmt := top 12
abbrev s_Bitmap_paired : Stmt := inClass (top 19) 14
abbrev s_Bitmapdd_anddd : Stmt := inClass (top 19) 16
abbrev s_Bitmap_first : Stmt := inClass (top 19) 10
abbrev s_Bitmapdd_subdd : Stmt := inClass (top 19) 19
abbrev s_Bitmapdd_ordd : Stmt := inClass (top 19) 17
abbrev s_Bitmapdd_eqdd : Stmt := inClass (top 19) 21
abbrev s_narrowed : Stmt := top 24
abbrev s_Columndd_initdd : Stmt := inClass (top 32) 1
abbrev s_Summary_built : Stmt := inClass (top 34) 8
abbrev s_Summary_example : Stmt := inClass (top 34) 7
abbrev s__law_is_number : Stmt := top 41
abbrev s__law_is_bitmap : Stmt := top 42
abbrev s__law_passing : Stmt := top 51
abbrev s__law_refused : Stmt := top 52
abbrev s__law_round : Stmt := top 53
abbrev s_law : Stmt := top 54
abbrev s_NoSuchRankdd_initdd : Stmt := inClass (top 6) 0
abbrev s_NoSuchRowdd_initdd : Stmt := inClass (top 5) 0
abbrev s_OutOfReachdd_initdd : Stmt := inClass (top 9) 0
def hfn : List DfX := (⟨fun K => He.fAd K ("_law_draw", none), "_law_draw", "_law_draw", defArgs s__law_draw, defBody s__law_draw, defScope s__law_draw, [], [], []⟩ : DfX) :: (⟨fun K => He.fAd K ("_law_wide", none), "_law_wide", "_law_wide", defArgs s__law_wide, defBody s__law_wide, defScope s__law_wide, [], [], []⟩ : DfX) :: (⟨fun K => He.fAd K ("_law_size", none), "_law_size", "_law_size", defArgs s__law_size, defBody s__law_size, defScope s__law_size, [], [], []⟩ : DfX) :: (⟨fun K => He.fAd K ("_law_ends", none), "_law_ends", "_law_ends", defArgs s__law_ends, defBody s__law_ends, defScope s__law_ends, [], [], []⟩ : DfX) :: (⟨fun K => He.fAd K ("_law_places", none), "_law_places", "_law_places", defArgs s__law_places, defBody s__law_places, defScope s__law_places, [], [], []⟩ : DfX) :: (⟨fun K => He.fAd K ("_law_in", none), "_law_in", "_law_in", defArgs s__law_in, defBody s__law_in, defScope s__law_in, [], [], []⟩ : DfX) :: (⟨fun K => He.fAd K ("_law_rotated", none), "_law_rotated", "_law_rotated", defArgs s__law_rotated, defBody s__law_rotated, defScope s__law_rotated, [], [], []⟩ : DfX) :: (⟨fun K => He.fAd K ("_law_ones", none), "_law_ones", "_law_ones", defArgs s__law_ones, defBody s__law_ones, defScope s__law_ones, [], [], []⟩ : DfX) :: (⟨fun K => He.fAd K ("_law_rows_of", none), "_law_rows_of", "_law_rows_of", defArgs s__law_rows_of, defBody s__law_rows_of, defScope s__law_rows_of, [], [], []⟩ : DfX) :: (⟨fun K => He.fAd K ("_law_number_at", none), "_law_number_at", "_law_number_at", defArgs s__law_number_at, defBody s__law_number_at, defScope s__law_number_at, [], [], []⟩ : DfX) :: (⟨fun K => He.fAd K ("_law_numbers", none), "_law_numbers", "_law_numbers", defArgs s__law_numbers, defBody s__law_numbers, defScope s__law_numbers, [], [], []⟩ : DfX) :: (⟨fun K => He.fAd K ("Summary", some "__init__"), "__init__", "Summary.__init__", defArgs s_Summarydd_initdd, defBody s_Summarydd_initdd, defScope s_Summarydd_initdd, [], [], []⟩ : DfX) :: (⟨fun K => He.fAd K ("Summary", some "outside"), "outside", "Summary.outside", defArgs s_Summary_outside, defBody s_Summary_outside, defScope s_Summary_outside, [], [], []⟩ : DfX) :: (⟨fun K => He.fAd K ("Summary", some "steps"), "steps", "Summary.steps", defArgs s_Summary_steps, defBody s_Summary_steps, defScope s_Summary_steps, [], [], []⟩ : DfX) :: (⟨fun K => He.fAd K ("Summary", some "ranges"), "ranges", "Summary.ranges", defArgs s_Summary_ranges, defBody s_Summary_ranges, defScope s_Summary_ranges, [], [], []⟩ : DfX) :: (⟨fun K => He.fAd K ("Summary", some "bounds"), "bounds", "Summary.bounds", defArgs s_Summary_bounds, defBody s_Summary_bounds, defScope s_Summary_bounds, [], [("equal", .bl false)], []⟩ : DfX) :: (⟨fun K => He.fAd K ("_law_passes", none), "_law_passes", "_law_passes", defArgs s__law_passes, defBody s__law_passes, defScope s__law_passes, [], [], []⟩ : DfX) :: (⟨fun K => He.fAd K ("weight_of", none), "weight_of", "weight_of", defArgs s_weight_of, defBody s_weight_of, defScope s_weight_of, [], [], []⟩ : DfX) :: (⟨fun K => uA K "Summary" "total", "total", "Summary.total", defArgs s_Summary_total, defBody s_Summary_total, defScope s_Summary_total, [], [], []⟩ : DfX) :: (⟨fun K => He.fAd K ("Summary", some "reach"), "reach", "Summary.reach", defArgs s_Summary_reach, defBody s_Summary_reach, defScope s_Summary_reach, [], [], []⟩ : DfX) :: (⟨fun K => He.fAd K ("Summary", some "kth_bounds"), "kth_bounds", "Summary.kth_bounds", defArgs s_Summary_kth_bounds, defBody s_Summary_kth_bounds, defScope s_Summary_kth_bounds, [], [], []⟩ : DfX) :: (⟨fun K => He.fAd K ("_law_at_index", none), "_law_at_index", "_law_at_index", defArgs s__law_at_index, defBody s__law_at_index, defScope s__law_at_index, [], [], []⟩ : DfX) :: (⟨fun K => He.fAd K ("turned", none), "turned", "turned", defArgs s_turned, defBody s_turned, defScope s_turned, [], [], []⟩ : DfX) :: (⟨fun K => He.fAd K ("Bitmap", some "__init__"), "__init__", "Bitmap.__init__", defArgs s_Bitmapdd_initdd, defBody s_Bitmapdd_initdd, defScope s_Bitmapdd_initdd, [.adr (He.dflAt ("Bitmap", some "__init__") 0)], [], []⟩ : DfX) :: (⟨fun K => uA K "Bitmap" "full", "full", "Bitmap.full", defArgs s_Bitmap_full, defBody s_Bitmap_full, defScope s_Bitmap_full, [], [], []⟩ : DfX) :: (⟨fun K => He.fAd K ("Bitmap", some "rank"), "rank", "Bitmap.rank", defArgs s_Bitmap_rank, defBody s_Bitmap_rank, defScope s_Bitmap_rank, [], [], []⟩ : DfX) :: (⟨fun K => uA K "Bitmap" "ones", "ones", "Bitmap.ones", defArgs s_Bitmap_ones, defBody s_Bitmap_ones, defScope s_Bitmap_ones, [], [], []⟩ : DfX) :: (⟨fun K => He.fAd K ("Bitmap", some "runs"), "runs", "Bitmap.runs", defArgs s_Bitmap_runs, defBody s_Bitmap_runs, defScope s_Bitmap_runs, [], [], []⟩ : DfX) :: (⟨fun K => He.fAd K ("Bitmap", some "nth"), "nth", "Bitmap.nth", defArgs s_Bitmap_nth, defBody s_Bitmap_nth, defScope s_Bitmap_nth, [], [], []⟩ : DfX) :: (⟨fun K => uA K "Bitmap" "span", "span", "Bitmap.span", defArgs s_Bitmap_span, defBody s_Bitmap_span, defScope s_Bitmap_span, [], [], []⟩ : DfX) :: (⟨fun K => He.fAd K ("next_end", none), "next_end", "next_end", defArgs s_next_end, defBody s_next_end, defScope s_next_end, [], [], []⟩ : DfX) :: (⟨fun K => He.fAd K ("swept", none), "swept", "swept", defArgs s_swept, defBody s_swept, defScope s_swept, [], [], []⟩ : DfX) :: (⟨fun K => He.fAd K ("Bitmap", some "paired"), "paired", "Bitmap.paired", defArgs s_Bitmap_paired, defBody s_Bitmap_paired, defScope s_Bitmap_paired, [], [], []⟩ : DfX) :: (⟨fun K => He.fAd K ("Bitmap", some "__and__"), "__and__", "Bitmap.__and__", defArgs s_Bitmapdd_anddd, defBody s_Bitmapdd_anddd, defScope s_Bitmapdd_anddd, [], [], []⟩ : DfX) :: (⟨fun K => He.fAd K ("Bitmap", some "first"), "first", "Bitmap.first", defArgs s_Bitmap_first, defBody s_Bitmap_first, defScope s_Bitmap_first, [], [], []⟩ : DfX) :: (⟨fun K => He.fAd K ("Bitmap", some "__sub__"), "__sub__", "Bitmap.__sub__", defArgs s_Bitmapdd_subdd, defBody s_Bitmapdd_subdd, defScope s_Bitmapdd_subdd, [], [], []⟩ : DfX) :: (⟨fun K => He.fAd K ("Bitmap", some "__or__"), "__or__", "Bitmap.__or__", defArgs s_Bitmapdd_ordd, defBody s_Bitmapdd_ordd, defScope s_Bitmapdd_ordd, [], [], []⟩ : DfX) :: (⟨fun K => He.fAd K ("Bitmap", some "__eq__"), "__eq__", "Bitmap.__eq__", defArgs s_Bitmapdd_eqdd, defBody s_Bitmapdd_eqdd, defScope s_Bitmapdd_eqdd, [], [], []⟩ : DfX) :: (⟨fun K => He.fAd K ("narrowed", none), "narrowed", "narrowed", defArgs s_narrowed, defBody s_narrowed, defScope s_narrowed, [], [], []⟩ : DfX) :: (⟨fun K => He.fAd K ("Column", some "__init__"), "__init__", "Column.__init__", defArgs s_Columndd_initdd, defBody s_Columndd_initdd, defScope s_Columndd_initdd, [], [], []⟩ : DfX) :: (⟨fun K => He.fAd K ("Summary", some "built"), "built", "Summary.built", defArgs s_Summary_built, defBody s_Summary_built, defScope s_Summary_built, [], [], []⟩ : DfX) :: (⟨fun K => He.fAd K ("Summary", some "example"), "example", "Summary.example", defArgs s_Summary_example, defBody s_Summary_example, defScope s_Summary_example, [], [("equal", .bl false)], []⟩ : DfX) :: (⟨fun K => He.fAd K ("_law_is_number", none), "_law_is_number", "_law_is_number", defArgs s__law_is_number, defBody s__law_is_number, defScope s__law_is_number, [], [], []⟩ : DfX) :: (⟨fun K => He.fAd K ("_law_is_bitmap", none), "_law_is_bitmap", "_law_is_bitmap", defArgs s__law_is_bitmap, defBody s__law_is_bitmap, defScope s__law_is_bitmap, [], [], []⟩ : DfX) :: (⟨fun K => He.fAd K ("_law_passing", none), "_law_passing", "_law_passing", defArgs s__law_passing, defBody s__law_passing, defScope s__law_passing, [], [], []⟩ : DfX) :: (⟨fun K => He.fAd K ("_law_refused", none), "_law_refused", "_law_refused", defArgs s__law_refused, defBody s__law_refused, defScope s__law_refused, [], [], []⟩ : DfX) :: (⟨fun K => He.fAd K ("_law_round", none), "_law_round", "_law_round", defArgs s__law_round, defBody s__law_round, defScope s__law_round, [], [], []⟩ : DfX) :: (⟨fun K => He.fAd K ("law", none), "law", "law", defArgs s_law, defBody s_law, defScope s_law, [], [], []⟩ : DfX) :: (⟨fun K => He.fAd K ("NoSuchRank", some "__init__"), "__init__", "NoSuchRank.__init__", defArgs s_NoSuchRankdd_initdd, defBody s_NoSuchRankdd_initdd, defScope s_NoSuchRankdd_initdd, [], [], ["__class__"]⟩ : DfX) :: (⟨fun K => He.fAd K ("NoSuchRow", some "__init__"), "__init__", "NoSuchRow.__init__", defArgs s_NoSuchRowdd_initdd, defBody s_NoSuchRowdd_initdd, defScope s_NoSuchRowdd_initdd, [], [], ["__class__"]⟩ : DfX) :: (⟨fun K => He.fAd K ("OutOfReach", some "__init__"), "__init__", "OutOfReach.__init__", defArgs s_OutOfReachdd_initdd, defBody s_OutOfReachdd_initdd, defScope s_OutOfReachdd_initdd, [], [], ["__class__"]⟩ : DfX) :: []
abbrev hP : Program := PySem.Challenge.rw_slicedcolumns_k35_whole_counts_settle.prog
def hfx : List (Frag → Bool) := (cfB "Bitmap" ["ends", "size"]) :: (cfB "Column" ["presence", "size", "slices", "width"]) :: (dfB "Summary" [] ["many", "counts", "half"]) :: (fun K => empB K (V.ref (He.dflAt ("Bitmap", some "__init__") 0 K))) :: (propB "Bitmap" "ones") :: (propB "Summary" "total") :: (rsB "BadBitmap") :: (rsB "BadColumn") :: (rsB "BadSummary") :: (rsB "SizesDiffer") :: (statB "Bitmap" "full") :: (statB "Bitmap" "span") :: (fun K => He.tupB K "AND" [.int 0, .int 0, .int 0, .int 1]) :: (fun K => He.tupB K "LESS" [.int 0, .int 0, .int 1, .int 0]) :: (fun K => He.tupB K "OR" [.int 0, .int 1, .int 1, .int 1]) :: (exfB "BadBitmap" ["SliceError"]) :: (exfB "BadColumn" ["SliceError"]) :: (exfB "BadSummary" ["SliceError"]) :: (exfB "NoSuchRank" ["SliceError"]) :: (exfB "NoSuchRow" ["SliceError"]) :: (exfB "OutOfReach" ["SliceError"]) :: (exfB "SizesDiffer" ["SliceError"]) :: (xffB "OutOfReach" "number") :: (xiB hP "NoSuchRank" "number") :: (xiB hP "NoSuchRow" "row") :: (xiB hP "OutOfReach" "number") :: []
def hfa : List He.Fa := (.glo "AND") :: (.glo "BadBitmap") :: (.glo "BadColumn") :: (.glo "BadSummary") :: (.glo "Bitmap") :: (.glo "Column") :: (.glo "LESS") :: (.glo "NoSuchRank") :: (.glo "NoSuchRow") :: (.glo "OR") :: (.glo "OutOfReach") :: (.glo "SizesDiffer") :: (.glo "Summary") :: (.glo "_law_at_index") :: (.glo "_law_draw") :: (.glo "_law_ends") :: (.glo "_law_in") :: (.glo "_law_is_bitmap") :: (.glo "_law_is_number") :: (.glo "_law_number_at") :: (.glo "_law_numbers") :: (.glo "_law_ones") :: (.glo "_law_passes") :: (.glo "_law_passing") :: (.glo "_law_places") :: (.glo "_law_refused") :: (.glo "_law_rotated") :: (.glo "_law_round") :: (.glo "_law_rows_of") :: (.glo "_law_size") :: (.glo "_law_wide") :: (.glo "law") :: (.glo "narrowed") :: (.glo "next_end") :: (.glo "swept") :: (.glo "turned") :: (.glo "weight_of") :: (.free "abs") :: (.free "bool") :: (.free "enumerate") :: (.free "int") :: (.free "isinstance") :: (.free "len") :: (.free "list") :: (.free "max") :: (.free "min") :: (.free "range") :: (.free "sorted") :: (.free "sum") :: (.free "super") :: (.free "tuple") :: (.mkr "Bitmap") :: (.mkr "Column") :: (.mkr "Summary") :: (.meth "Bitmap" "first") :: (.meth "Bitmap" "nth") :: (.meth "Bitmap" "paired") :: (.meth "Bitmap" "rank") :: (.meth "Bitmap" "runs") :: (.meth "Bitmap" "__and__") :: (.meth "Bitmap" "__eq__") :: (.meth "Bitmap" "__or__") :: (.meth "Bitmap" "__sub__") :: (.meth "Summary" "bounds") :: (.meth "Summary" "built") :: (.meth "Summary" "example") :: (.meth "Summary" "kth_bounds") :: (.meth "Summary" "outside") :: (.meth "Summary" "ranges") :: (.meth "Summary" "reach") :: (.meth "Summary" "steps") :: []
abbrev hR : PySem.W.OpenRow := PySem.W.OpenLaw.row PySem.Challenge.rw_slicedcolumns_k35_whole_counts_settle
def hloose : List Str := "_wall" :: "SliceError" :: "BadBitmap" :: "SizesDiffer" :: "NoSuchRow" :: "NoSuchRank" :: "BadColumn" :: "BadSummary" :: "OutOfReach" :: "next_end" :: "swept" :: "turned" :: "AND" :: "OR" :: "XOR" :: "LESS" :: "Bitmap" :: "weight_of" :: "number_at" :: "extended" :: "narrowed" :: "added" :: "negated" :: "multiplied" :: "bitmap_of" :: "width_for" :: "bit_of" :: "Column" :: "Summary" :: "_law_draw" :: "_law_wide" :: "_law_size" :: "_law_ends" :: "_law_in" :: "_law_is_number" :: "_law_is_bitmap" :: "_law_places" :: "_law_rows_of" :: "_law_number_at" :: "_law_ones" :: "_law_numbers" :: "_law_at_index" :: "_law_rotated" :: "_law_passes" :: "_law_passing" :: "_law_refused" :: "_law_round" :: []
def hnm : List Str := "SliceError" :: "BadBitmap" :: "SizesDiffer" :: "NoSuchRow" :: "NoSuchRank" :: "BadColumn" :: "BadSummary" :: "OutOfReach" :: "next_end" :: "swept" :: "turned" :: "AND" :: "OR" :: "LESS" :: "Bitmap" :: "weight_of" :: "narrowed" :: "Column" :: "Summary" :: "_law_draw" :: "_law_wide" :: "_law_size" :: "_law_ends" :: "_law_in" :: "_law_is_number" :: "_law_is_bitmap" :: "_law_places" :: "_law_rows_of" :: "_law_number_at" :: "_law_ones" :: "_law_numbers" :: "_law_at_index" :: "_law_rotated" :: "_law_passes" :: "_law_passing" :: "_law_refused" :: "_law_round" :: "law" :: []
abbrev hhk : PySem.W.Hook := hookY hnm hfa hfx hfn
def hob (s : PySem.W.SharedT) : AlX := obsYG hnm hfa hfx hfn (HandSHeadRun.getT s)
theorem hob_eq (s : PySem.W.SharedT) : hob s = hhk.obs s.abs := obsYG_eq (HandSHeadRun.getT_eq s)
section
open HandSHeadRun PySem.W
def hK (s : PySem.W.SharedT) : Frag := He.frG (HandSHeadRun.getT s) (asY hnm (HandSHeadRun.getT s))
theorem hq1 (w : World) (os : OsState) : (HandSHeadRun.endF (HandSHeadRun.stepQ (HandSHeadRun.denQ HandSHeadRun.tabQ) hR.prog w) 16000 hR.prog w os).map (fun s => (HandSHeadRun.looksF hR.prog (boot_heap w.params) s.abs, HandSHeadRun.seenQ (PySem.W.view hR.prog [54]) hloose (importedModules hR.prog.main.body) (fun s => xlAt (PySem.W.view hR.prog [54]) [] s && recOk hR.toRowW.records s) s.abs)) = some (true, openGood (PySem.W.view hR.prog [54]) hloose) := by kernel_rfl
theorem hq2 (w : World) (os : OsState) : (HandSHeadRun.endF (HandSHeadRun.stepQ (HandSHeadRun.denQ HandSHeadRun.tabQ) hR.prog w) 16000 hR.prog w os).map (fun s => hfa.all fun f => f.ok (hK s)) = some (true) := by kernel_rfl
theorem hq3a (w : World) (os : OsState) : (HandSHeadRun.endF (HandSHeadRun.stepQ (HandSHeadRun.denQ HandSHeadRun.tabQ) hR.prog w) 16000 hR.prog w os).map (fun s => (hfx.take 9).all fun f => f (hK s)) = some (true) := by kernel_rfl
theorem hq3b (w : World) (os : OsState) : (HandSHeadRun.endF (HandSHeadRun.stepQ (HandSHeadRun.denQ HandSHeadRun.tabQ) hR.prog w) 16000 hR.prog w os).map (fun s => ((hfx.drop 9).take 9).all fun f => f (hK s)) = some (true) := by kernel_rfl
theorem hq3c (w : World) (os : OsState) : (HandSHeadRun.endF (HandSHeadRun.stepQ (HandSHeadRun.denQ HandSHeadRun.tabQ) hR.prog w) 16000 hR.prog w os).map (fun s => ((hfx.drop 9).drop 9).all fun f => f (hK s)) = some (true) := by kernel_rfl
theorem hq4 (w : World) (os : OsState) : (HandSHeadRun.endF (HandSHeadRun.stepQ (HandSHeadRun.denQ HandSHeadRun.tabQ) hR.prog w) 16000 hR.prog w os).map (fun s => (hfn.take 16).all fun d => d.ok (hK s)) = some (true) := by kernel_rfl
theorem hq5 (w : World) (os : OsState) : (HandSHeadRun.endF (HandSHeadRun.stepQ (HandSHeadRun.denQ HandSHeadRun.tabQ) hR.prog w) 16000 hR.prog w os).map (fun s => ((hfn.drop 16).take 16).all fun d => d.ok (hK s)) = some (true) := by kernel_rfl
theorem hq6 (w : World) (os : OsState) : (HandSHeadRun.endF (HandSHeadRun.stepQ (HandSHeadRun.denQ HandSHeadRun.tabQ) hR.prog w) 16000 hR.prog w os).map (fun s => ((hfn.drop 16).drop 16).all fun d => d.ok (hK s)) = some (true) := by kernel_rfl
theorem hq7 (w : World) (os : OsState) : (HandSHeadRun.endF (HandSHeadRun.stepQ (HandSHeadRun.denQ HandSHeadRun.tabQ) hR.prog w) 16000 hR.prog w os).map (fun s => hfn.map fun d => fnX (hK s) (d.ad (hK s))) = some (hfn.map DfX.val) := by kernel_rfl
theorem run_parts3 {σ β : Type} {o : Option σ} {l : σ → Bool} {g : σ → β} {v2 : β} {K : σ → Frag} {fa : List He.Fa} {fx : List (Frag → Bool)} {fn : List DfX} {ob : σ → AlX} (n m p : Nat) (hob : ∀ s, ob s = obsK fa fx fn (K s)) (h1 : o.map (fun s => (l s, g s)) = some (true, v2))
    (h3 : o.map (fun s => fa.all fun f => f.ok (K s)) = some true) (h4a : o.map (fun s => (fx.take p).all fun f => f (K s)) = some true) (h4b : o.map (fun s => ((fx.drop p).take p).all fun f => f (K s)) = some true) (h4c : o.map (fun s => ((fx.drop p).drop p).all fun f => f (K s)) = some true) (h5 : o.map (fun s => (fn.take n).all fun d => d.ok (K s)) = some true) (h6 : o.map (fun s => ((fn.drop n).take m).all fun d => d.ok (K s)) = some true)
    (h7 : o.map (fun s => ((fn.drop n).drop m).all fun d => d.ok (K s)) = some true) (h8 : o.map (fun s => fn.map fun d => fnX (K s) (d.ad (K s))) = some (fn.map DfX.val)) : o.map (fun s => (l s, g s, ob s)) = some (true, v2, valX fn) := by
  refine run_parts n m hob h1 h3 ?_ h5 h6 h7 h8
  cases o with
  | none => cases h1
  | some s =>
    have a : ((fx.take p).all fun f => f (K s)) = true := Option.some.inj h4a
    have b : (((fx.drop p).take p).all fun f => f (K s)) = true := Option.some.inj h4b
    have c : (((fx.drop p).drop p).all fun f => f (K s)) = true := Option.some.inj h4c
    have e : (fx.all fun f => f (K s)) = true := by
      rw [← List.take_append_drop p fx, List.all_append, a, ← List.take_append_drop p (fx.drop p), List.all_append, b, c] <;> rfl
    show some (fx.all fun f => f (K s)) = some true
    rw [e]
end
theorem hrun (w : World) : HandSHeadRun.RunEq hR (PySem.W.view hR.prog [54]) hhk hob 16000 hloose w := by
  intro os
  exact run_parts3 (K := hK) 16 16 9 (fun _ => rfl) (hq1 w os) (hq2 w os) (hq3a w os) (hq3b w os) (hq3c w os) (hq4 w os) (hq5 w os) (hq6 w os) (hq7 w os)
end S
namespace S
open PySem PySem.Spec PyProof.Rows L2
abbrev HF : Prop := ∀ (w : World) (K : Frag) (h : Heap) (mg : Str → Option Value) (f : Addr), K.In h → h.Ns mainGlobals mg → mg ("law" : Str) = some (.ref f) → SaysX hfa hfx hfn K →
    ∃ fd : FuncData, (∀ (s : Shared) (v : Value), BindsTo s fd ⟨[v], []⟩ [("_law_script", v)]) ∧ ∀ base : Heap, K.In base → base.Ns mainGlobals mg → FnOk hP w K mg base CX0 11 f fd ["_law_script"] (sp_law K)
end S
section
open PySem PySem.W PySem.Calls PyProof.Rows
theorem hopenS (hf : S.HF) : PySem.Challenge.rw_slicedcolumns_k35_whole_counts_settle.Holds := by
  w_on; o_law
  refine HandSHeadRun.head_any (r := OpenLaw.row PySem.Challenge.rw_slicedcolumns_k35_whole_counts_settle) (q := view (OpenLaw.row PySem.Challenge.rw_slicedcolumns_k35_whole_counts_settle).prog [54]) (H := S.hhk) (ob := S.hob) (M := 16000) (loose := S.hloose) (d := HandSHeadRun.topDef (OpenLaw.row PySem.Challenge.rw_slicedcolumns_k35_whole_counts_settle).prog 54) (kwd := []) S.hob_eq
    (by kernel_rfl) (fun s => by kernel_rfl) S.hrun (by kernel_rfl) (by kernel_rfl) (by kernel_rfl) (by rfl) (by first | assumption | decide +kernel) (by decide +kernel) ⟨rfl, rfl, rfl, rfl, rfl, by decide +kernel⟩ ?hw ?hc
  case hw => w_witness2
  case hc =>
    refine L2.walk_ofE (l := PySem.Challenge.rw_slicedcolumns_k35_whole_counts_settle) (n := 63) (k := 11) (x := "_law_script") (CX := L2.CX0) rfl (by decide) (by kernel_rfl) ⟨rfl, by decide, by decide⟩ ?F (fun _ _ _ _ z => z)
    intro w mg fa h Y G hmg0
    obtain ⟨K, KX, c⟩ := Y
    have hmg : mg ("law" : PySem.Str) = some (.ref fa) := by
      have e : (HandSHeadRun.topDef (OpenLaw.row PySem.Challenge.rw_slicedcolumns_k35_whole_counts_settle).prog 54).name = ("law" : PySem.Str) := by kernel_rfl
      rw [← e]
      exact hmg0
    obtain ⟨fd, hb, hF⟩ := hf w K _ mg _ KX G hmg c
    exact ⟨K, fd, S.sp_law K, KX, hb, fun H a ns hl _ hS => ⟨a, ns, rfl, hS, fun _ => rfl⟩, hF⟩
end
namespace S
open PySem PySem.Spec PyProof.Rows L2
/-! ## readings that reduce -/
theorem PE.of {X : Cx} {e : Expr} {t t' : TE} (h : PE X e t) (i : ∀ σ H Q, t' σ H Q → t σ H Q) : PE X e t' := ⟨fun pins s σ H Q I q => h.run pins s σ H Q I (i σ H Q q)⟩
theorem PT.of {X : Cx} {e : Expr} {t t' : TT} (h : PT X e t) (i : ∀ σ H Q, t' σ H Q → t σ H Q) : PT X e t' := ⟨fun pins s σ H Q I q => h.run pins s σ H Q I (i σ H Q q)⟩
theorem PS.of {X : Cx} {e : Stmt} {t t' : TS} (h : PS X e t) (i : ∀ D σ H, t' D σ H → t D σ H) : PS X e t' := ⟨fun pins s σ H Q I q => h.run pins s σ H Q I (i Q σ H q)⟩
theorem OpR.of {X : Cx} {f : Value → Value → Sem Value} {r r' : R2} (h : OpR X f r) (i : ∀ x y H Q, r' x y H Q → r x y H Q) : OpR X f r' := fun pins s σ H x y v u Q I rx ry q => h pins s σ H x y v u Q I rx ry (i x y H Q q)
theorem IxR.of {X : Cx} {r r' : R2} (h : IxR X r) (i : ∀ x y H Q, r' x y H Q → r x y H Q) : IxR X r' := fun e1 e2 pins s σ H x y v u Q I rx ry q hs => h e1 e2 pins s σ H x y v u Q I rx ry (i x y H Q q) hs
theorem CallR.of {X : Cx} {f : Value} {r r' : List V → Hp → VK → Prop} (h : CallR X f r) (i : ∀ xs H Q, r' xs H Q → r xs H Q) : CallR X f r' := fun pins s σ H xs us Q I rx q => h pins s σ H xs us Q I rx (i xs H Q q)
theorem nth_ok : ∀ {σ : L2.St} {i : Nat} {v : V}, nth σ i = some v → σ[i]? = some (some v)
  | [], _, _, h => nomatch h
  | x :: _, 0, _, h => by
    have e : x = some _ := h
    rw [e]; rfl
  | _ :: r, n + 1, _, h => by
    have := nth_ok (σ := r) (i := n) h
    simpa using this
def SqA (K : Frag) (H : Hp) (p : Addr) (xs : List V) : Prop := SqL K H p xs ∨ SqT K H p xs
/-! ### points at which a reading waits for an answer -/
/-- a condition, then on -/
structure Need (c q : Prop) : Prop where
  c : c
  q : q
/-- the sequence at p is read -/
structure Rd (K : Frag) (H : Hp) (p : Addr) (k : List V → Prop) : Prop where
  ex : ∃ xs, SqA K H p xs ∧ k xs
theorem Rd.l {K : Frag} {H : Hp} {p : Addr} {k : List V → Prop} {xs : List V} (h : H p = some (.lst xs)) (q : k xs) : Rd K H p k := ⟨xs, .inl (SqL.of h), q⟩
theorem Rd.t {K : Frag} {H : Hp} {p : Addr} {k : List V → Prop} {xs : List V} (h : H p = some (.tup xs)) (q : k xs) : Rd K H p k := ⟨xs, .inr (SqT.of h), q⟩
theorem Rd.sl {K : Frag} {H : Hp} {p : Addr} {k : List V → Prop} {xs : List V} (h : SqL K H p xs) (q : k xs) : Rd K H p k := ⟨xs, .inl h, q⟩
theorem Rd.st {K : Frag} {H : Hp} {p : Addr} {k : List V → Prop} {xs : List V} (h : SqT K H p xs) (q : k xs) : Rd K H p k := ⟨xs, .inr h, q⟩
theorem Rd.sa {K : Frag} {H : Hp} {p : Addr} {k : List V → Prop} {xs : List V} (h : SqA K H p xs) (q : k xs) : Rd K H p k := ⟨xs, h, q⟩
/-- the item at i -/
structure At (xs : List V) (i : Int) (k : V → Prop) : Prop where
  ex : ∃ v, atI xs i = some v ∧ k v
theorem At.of {xs : List V} {i : Int} {k : V → Prop} {v : V} (h : atI xs i = some v) (q : k v) : At xs i k := ⟨v, h, q⟩
/-- the list at p is to be changed -/
structure Ls (H : Hp) (p : Addr) (k : List V → Prop) : Prop where
  ex : ∃ xs, H p = some (.lst xs) ∧ k xs
theorem Ls.of {H : Hp} {p : Addr} {k : List V → Prop} {xs : List V} (h : H p = some (.lst xs)) (q : k xs) : Ls H p k := ⟨xs, h, q⟩
/-- a new list; a new tuple, or one that stands -/
structure NewL (H : Hp) (ys : List V) (Q : V → Hp → Prop) : Prop where
  go : ∀ p, H p = none → Q (.ref p) (upd H p (.lst ys))
structure NewT (K : Frag) (H : Hp) (ys : List V) (Q : V → Hp → Prop) : Prop where
  go : ∀ p H', Same H H' → SqT K H' p ys → Q (.ref p) H'
def onSome (o : Option V) (k : V → Prop) : Prop := match o with
  | some v => k v
  | none => False
def dVar (i : Nat) : TE := fun σ H Q => onSome (nth σ i) fun v => Q v H
theorem pv {X : Cx} (i : Nat) {x : Str} {pos : Pos} (hN : X.N[i]? = some x := by rfl) (hv : Vis X.env.scope x := by first | exact Or.inl rfl | exact Or.inr (Or.inl rfl) | exact Or.inr (Or.inr rfl)) (hd : (x == ("__debug__" : Str)) = false := by decide)
    (hcd : (x == ("__classdict__" : Str)) = false := by decide) : PE X (.Name x pos) (dVar i) := PE.of (pe_var hN hv hd hcd) fun σ H Q q => by
  unfold dVar onSome at q
  cases e : nth σ i with
  | none => rw [e] at q; exact q.elim
  | some v => rw [e] at q; exact ⟨v, nth_ok e, q⟩
/-- two ways by a bool -/
def bIf (b : Bool) (A B : Prop) : Prop := match b with
  | true => A
  | false => B
theorem ifb {b : Bool} {A B : Prop} (h1 : b = true → A) (h2 : b = false → B) : bIf b A B := by
  cases b with
  | true => exact h1 rfl
  | false => exact h2 rfl
theorem ifd {c : Prop} [Decidable c] {A B : Prop} (h1 : c → A) (h2 : ¬ c → B) : bIf (decide c) A B := ifb (fun h => h1 (of_decide_eq_true h)) fun h => h2 (of_decide_eq_false h)
theorem ifn {c : Prop} [Decidable c] {A B : Prop} (h1 : ¬ c → A) (h2 : c → B) : bIf (!decide c) A B := ifb (fun h => h1 (by simpa using h)) fun h => h2 (by simpa using h)
theorem ift {c : Prop} [Decidable c] {A B : Prop} (hc : c) (h1 : A) : bIf (decide c) A B := by rw [decide_eq_true hc]; exact h1
theorem iff' {c : Prop} [Decidable c] {A B : Prop} (hc : ¬ c) (h1 : B) : bIf (decide c) A B := by rw [decide_eq_false hc]; exact h1
theorem ifnt {c : Prop} [Decidable c] {A B : Prop} (hc : ¬ c) (h1 : A) : bIf (!decide c) A B := by rw [decide_eq_false hc]; exact h1
theorem ifnf {c : Prop} [Decidable c] {A B : Prop} (hc : c) (h1 : B) : bIf (!decide c) A B := by rw [decide_eq_true hc]; exact h1
/-! ### tests -/
def dTru (K : Frag) (x : V) (H : Hp) (Q : Bool → Prop) : Prop := match x with
  | .bl b => Q b
  | .non => Q false
  | .int i => Q (decide (i ≠ 0))
  | .str z => Need (z.length ≤ sizeLine) (Q (decide (z.length ≠ 0)))
  | .ref p => Rd K H p fun xs => Q (decide (xs ≠ []))
  | _ => False
def dTest (K : Frag) (ta : TE) : TT := fun σ H Q => ta σ H fun x H1 => dTru K x H1 fun b => Q b H1
theorem pt_of {X : Cx} {a : Expr} {ta : TE} (ha : PE X a ta) (he : ∀ whole, isTrue a X.env whole = (do let v ← whole; standAt a.pos; holding [v] (truthy v)) := by intro _; rfl) : PT X a (dTest X.K ta) := by
  refine ⟨fun pins s σ H Q I h => ?_⟩
  refine isTrue_plain (thn (ha.run pins s σ H _ I h) fun v s1 ⟨x, H1, I1, r1, q1⟩ => ?_) (he _)
  cases x with
  | bl b =>
    exact tru_ok pins s1 σ H1 (.bl b) v Q I1 r1 ⟨b, rfl, q1⟩
  | non =>
    exact tru_ok pins s1 σ H1 .non v Q I1 r1 ⟨false, rfl, q1⟩
  | int i =>
    refine tru_ok pins s1 σ H1 (.int i) v Q I1 r1 ⟨_, rfl, ?_⟩
    have e : (i != 0) = decide (i ≠ 0) := by by_cases h : i = 0 <;> simp [h]
    rw [e]; exact q1
  | str z =>
    refine tru_ok pins s1 σ H1 (.str z) v Q I1 r1 ⟨_, ⟨q1.c, rfl⟩, ?_⟩
    have e : ((z.length : Int) != 0) = decide (z.length ≠ 0) := by by_cases h : z.length = 0 <;> simp [h]
    rw [e]; exact q1.q
  | ref p =>
    obtain ⟨⟨xs, hx, q⟩⟩ := q1
    have e : (!xs.isEmpty) = decide (xs ≠ []) := by cases xs <;> simp
    rcases hx with hx | hx
    · refine tru_ok pins s1 σ H1 (.ref p) v Q I1 r1 ⟨_, .inl ⟨xs, hx, rfl⟩, ?_⟩
      rw [e]; exact q
    · refine tru_ok pins s1 σ H1 (.ref p) v Q I1 r1 ⟨_, .inr (.inl ⟨xs, hx, rfl⟩), ?_⟩
      rw [e]; exact q
  | _ => exact q1.elim
def dAnd (t u : TT) : TT := fun σ H Q => t σ H fun c H1 => bIf c (u σ H1 Q) (Q false H1)
def dOr (t u : TT) : TT := fun σ H Q => t σ H fun c H1 => bIf c (Q true H1) (u σ H1 Q)
def dNot (t : TT) : TT := fun σ H Q => t σ H fun c H1 => Q (!c) H1
def dIfS (c : TT) (t u : TS) : TS := fun D σ H => c σ H fun b H1 => bIf b (t D σ H1) (u D σ H1)

/-! ### operators by the values -/
def int2 (k : Int → Int → Prop) (x y : V) : Prop := match x, y with
  | .int i, .int j => k i j
  | _, _ => False
/-- two lists, two tuples one behind the other -/
structure Cat (K : Frag) (H : Hp) (a b : Addr) (Q : V → Hp → Prop) : Prop where
  ex : (∃ xs zs, H a = some (.lst xs) ∧ H b = some (.lst zs) ∧ xs.length + zs.length ≤ sizeLine ∧ ∀ p, H p = none → Q (.ref p) (upd H p (.lst (xs ++ zs)))) ∨
     (∃ xs ys, SqT K H a xs ∧ SqT K H b ys ∧ xs.length + ys.length ≤ sizeLine ∧ ∀ p H', Same H H' → SqT K H' p (xs ++ ys) → Q (.ref p) H')
theorem Cat.l {K : Frag} {H : Hp} {a b : Addr} {Q : V → Hp → Prop} {xs zs : List V} (h : H a = some (.lst xs)) (h2 : H b = some (.lst zs)) (hz : xs.length + zs.length ≤ sizeLine) (q : ∀ p, H p = none → Q (.ref p) (upd H p (.lst (xs ++ zs)))) : Cat K H a b Q := ⟨.inl ⟨xs, zs, h, h2, hz, q⟩⟩
theorem Cat.t {K : Frag} {H : Hp} {a b : Addr} {Q : V → Hp → Prop} {xs ys : List V} (h : SqT K H a xs) (h2 : SqT K H b ys) (hz : xs.length + ys.length ≤ sizeLine) (q : ∀ p H', Same H H' → SqT K H' p (xs ++ ys) → Q (.ref p) H') : Cat K H a b Q := ⟨.inr ⟨xs, ys, h, h2, hz, q⟩⟩
def oAdd (K : Frag) : R2 := fun x y H Q => match x, y with
  | .int i, .int j => Q (.int (i + j)) H
  | .str a, .str b => Need (a.length + b.length ≤ sizeLine) (Q (.str (a ++ b)) H)
  | .ref a, .ref b => Cat K H a b Q
  | _, _ => False
theorem same_new {H : Hp} {p : Addr} {o : HO} (h : H p = none) : Same H (upd H p o) := fun b u e => by rw [upd_ne (ne_of_none e h)]; exact e
theorem o_add {X : Cx} : OpR X (binaryOp .Add) (oAdd X.K) := OpR.of (op_add.or (op_add_str.or (op_cat.or op_catA))) fun x y H Q q => by
  cases x <;> cases y <;> try exact q.elim
  · exact .inl ⟨_, _, rfl, rfl, q⟩
  · exact .inr (.inl ⟨_, _, rfl, rfl, q.c, q.q⟩)
  · rcases q.ex with ⟨xs, zs, h1, h2, h3, q⟩ | ⟨xs, ys, h1, h2, h3, q⟩
    · exact .inr (.inr (.inl ⟨_, _, xs, zs, rfl, rfl, h1, h2, h3, q⟩))
    · refine .inr (.inr (.inr ⟨_, _, xs, ys, rfl, rfl, h1, h2, h3, fun e => ?_, fun _ e => ?_, fun _ _ p hp => ?_⟩))
      · subst e; exact q _ _ (Same.refl _) h2
      · subst e; exact q _ _ (Same.refl _) (by rw [List.append_nil]; exact h1)
      · exact q _ _ (same_new hp) (SqT.of upd_same)
def oI (C : Int → Int → Prop) (g : Int → Int → Int) : R2 := fun x y H Q => int2 (fun i j => Need (C i j) (Q (.int (g i j)) H)) x y
def oI0 (g : Int → Int → Int) : R2 := fun x y H Q => int2 (fun i j => Q (.int (g i j)) H) x y
theorem oI_of {X : Cx} {f : Value → Value → Sem Value} {C : Int → Int → Prop} {g : Int → Int → Int} (h : OpR X f (rI C fun i j => .int (g i j))) : OpR X f (oI C g) := OpR.of h fun x y H Q q => by
  cases x <;> cases y <;> try exact q.elim
  exact ⟨_, _, rfl, rfl, q.c, q.q⟩
theorem oI0_of {X : Cx} {f : Value → Value → Sem Value} {g : Int → Int → Int} (h : OpR X f (rI0 fun i j => .int (g i j))) : OpR X f (oI0 g) := OpR.of h fun x y H Q q => by
  cases x <;> cases y <;> try exact q.elim
  exact ⟨_, _, rfl, rfl, q⟩
def oSub : R2 := oI0 fun i j => i - j
theorem o_sub {X : Cx} : OpR X (binaryOp .Sub) oSub := oI0_of op_sub
def oFdiv : R2 := oI CDiv fun i j => i / j
theorem o_fdiv {X : Cx} : OpR X (binaryOp .FloorDiv) oFdiv := oI_of op_fdiv
def oMod : R2 := oI (fun _ j => 0 < j) fun i j => i % j
theorem o_mod {X : Cx} : OpR X (binaryOp .Mod) oMod := oI_of op_mod
def oPow : R2 := oI CPow fun i j => i ^ j.toNat
theorem o_pow {X : Cx} : OpR X (binaryOp .Pow) oPow := oI_of op_pow
def oAnd : R2 := oI0 fun i j => Builtin.bitAnd i j
theorem o_and {X : Cx} : OpR X (binaryOp .BitAnd) oAnd := oI0_of op_and
def oShl : R2 := oI CPow fun i j => i * 2 ^ j.toNat
theorem o_shl {X : Cx} : OpR X (binaryOp .LShift) oShl := oI_of op_shl
def oShr : R2 := oI (fun _ j => 0 ≤ j) fun i j => i / 2 ^ j.toNat
theorem o_shr {X : Cx} : OpR X (binaryOp .RShift) oShr := oI_of op_shr
def uNeg : V → Hp → VK → Prop := fun x H Q => match x with
  | .int i => Q (.int (-i)) H
  | _ => False
theorem u_neg {X : Cx} : UnR X (unaryOp .USub) uNeg := fun pins s σ H x v Q I rx q => by
  cases x <;> try exact q.elim
  exact un_neg pins s σ H _ v Q I rx ⟨_, rfl, q⟩
def oC (g : Int → Int → Bool) : R2 := fun x y H Q => int2 (fun i j => Q (.bl (g i j)) H) x y
theorem oC_of {X : Cx} {f : Value → Value → Sem Value} {g : Int → Int → Bool} (h : OpR X f (rI0 fun i j => .bl (g i j))) : OpR X f (oC g) := OpR.of h fun x y H Q q => by
  cases x <;> cases y <;> try exact q.elim
  exact ⟨_, _, rfl, rfl, q⟩
def oLt : R2 := oC fun i j => decide (i < j)
def oLe : R2 := oC fun i j => decide (i ≤ j)
def oGt : R2 := oC fun i j => decide (j < i)
def oGe : R2 := oC fun i j => decide (j ≤ i)
theorem o_lt {X : Cx} : OpR X (compareOp .Lt) oLt := oC_of op_lt
theorem o_le {X : Cx} : OpR X (compareOp .LtE) oLe := oC_of op_le
theorem o_gt {X : Cx} : OpR X (compareOp .Gt) oGt := oC_of op_gt
theorem o_ge {X : Cx} : OpR X (compareOp .GtE) oGe := oC_of op_ge
def oIsN : R2 := fun x y H Q => y = .non ∧ Q (.bl (match x with | .non => true | _ => false)) H
def oNotN : R2 := fun x y H Q => y = .non ∧ Q (.bl (match x with | .non => false | _ => true)) H
theorem o_isN {X : Cx} : OpR X (compareOp .Is) oIsN := OpR.of op_isN fun x y H Q q => ⟨q.1, by cases x <;> exact q.2⟩
theorem o_notN {X : Cx} : OpR X (compareOp .IsNot) oNotN := OpR.of op_notN fun x y H Q q => ⟨q.1, by cases x <;> exact q.2⟩
/-- two data compared -/
structure EqD (K : Frag) (H : Hp) (x y : V) (k : Bool → Prop) : Prop where
  ex : ∃ d e, Dp K H x d ∧ Dp K H y e ∧ SeqAt.shaped d = true ∧ SeqAt.shaped e = true ∧ k (PyData.eqv d e)
/-- == of scalars and of data -/
def oEq (K : Frag) : R2 := fun x y H Q => match x, y with
  | .int i, .int j => Q (.bl (decide (i = j))) H
  | .str i, .str j => Q (.bl (decide (i = j))) H
  | .bl i, .bl j => Q (.bl (decide (i = j))) H
  | .non, .non => Q (.bl true) H
  | .non, .int _ => Q (.bl false) H
  | .int _, .non => Q (.bl false) H
  | .non, .bl _ => Q (.bl false) H
  | .bl _, .non => Q (.bl false) H
  | .non, .str _ => Q (.bl false) H
  | .str _, .non => Q (.bl false) H
  | .int _, .str _ => Q (.bl false) H
  | .str _, .int _ => Q (.bl false) H
  | x, y => EqD K H x y fun b => Q (.bl b) H
def oNe (K : Frag) : R2 := fun x y H Q => oEq K x y H fun v H' => match v with
  | .bl b => Q (.bl (!b)) H'
  | _ => False
theorem o_eq {X : Cx} (hu : X.A.units + 64 < cLine) : OpR X (compareOp .Eq) (oEq X.K) := OpR.of (op_eq.or (op_eqD hu)) fun x y H Q q => by
  cases x <;> cases y <;> first
    | exact .inr q.ex
    | (refine .inl ⟨rfl, ?_⟩; refine Eq.mp (congrArg (fun b => Q (V.bl b) H) ?_) q; simp)
theorem o_ne {X : Cx} (hu : X.A.units + 64 < cLine) : OpR X (compareOp .NotEq) (oNe X.K) := OpR.of (op_ne.or (op_neD hu)) fun x y H Q q => by
  cases x <;> cases y <;> first
    | exact .inr q.ex
    | (refine .inl ⟨rfl, ?_⟩; refine Eq.mp (congrArg (fun b => Q (V.bl b) H) ?_) q; simp)
/-! ### comparisons as tests, chains -/
def isB (Q : Bool → Hp → Prop) : VK := fun z H => match z with
  | .bl k => Q k H
  | _ => False
theorem isB_ex {Q : Bool → Hp → Prop} {z : V} {H : Hp} (h : isB Q z H) : ∃ k, z = .bl k ∧ Q k H := by
  cases z <;> try exact h.elim
  exact ⟨_, rfl, h⟩
def dCmpT (r : R2) (ta tb : TE) : TT := fun σ H Q => ta σ H fun x H1 => tb σ H1 fun y H2 => r x y H2 (isB Q)
theorem pt_cmp {X : Cx} {op : CmpOp} {a b : Expr} {ta tb : TE} {pos : Pos} {r : R2} (ho : OpR X (compareOp op) r) (ha : PE X a ta) (hb : PE X b tb) (hm : behindInMarks op b = false) : PT X (.Compare a [op] [b] pos) (dCmpT r ta tb) := by
  refine ⟨fun pins s σ H Q I h => ?_⟩
  refine wpAny_isTrue_Compare1 (thn (ha.run pins s σ H _ I h) fun v s1 ⟨x, H1, I1, r1, q1⟩ => thn (hb.run pins s1 σ H1 _ I1 q1) fun u s2 ⟨y, H2, I2, r2, q2⟩ =>
    thn (ho pins s2 σ H2 x y v u _ I2 r1 r2 q2) fun c s3 ⟨z, H3, I3, r3, q3⟩ => ?_) hm
  obtain ⟨k, e, q3⟩ := isB_ex q3
  subst e
  cases r3
  exact wpAny_truthy_bool ⟨H3, I3, q3⟩
def dChain (r r' : R2) (ta tb tc : TE) : TE := fun σ H Q => ta σ H fun x H1 => tb σ H1 fun y H2 => r x y H2 (isB fun k H3 => bIf k (tc σ H3 fun w' H4 => r' y w' H4 Q) (Q (.bl false) H3))
def dChainT (r r' : R2) (ta tb tc : TE) : TT := fun σ H Q => dChain r r' ta tb tc σ H (isB Q)
theorem pe_cmp {X : Cx} {op : CmpOp} {a b : Expr} {ta tb : TE} {pos : Pos} {r : R2} (ho : OpR X (compareOp op) r) (ha : PE X a ta) (hb : PE X b tb) (hm : behindInMarks op b = false) : PE X (.Compare a [op] [b] pos) (tOp r ta tb) := pe_cmpR ho ha hb hm
theorem pt_chain {X : Cx} {op op' : CmpOp} {a b c : Expr} {r r' : R2} {ta tb tc : TE} {pos : Pos} (ho : OpR X (compareOp op) r) (ho' : OpR X (compareOp op') r') (ha : PE X a ta) (hb : PE X b tb) (hc : PE X c tc)
    (hm : lastMarks [op, op'] [b, c] = false := by with_unfolding_all rfl) : PT X (.Compare a [op, op'] [b, c] pos) (dChainT r r' ta tb tc) := by
  refine ⟨fun pins s σ H Q I h => ?_⟩
  refine isTrue_chain (thn (ha.run pins s σ H _ I h) fun v s1 ⟨x, H1, I1, r1, q1⟩ => test_link (thn (hb.run pins s1 σ H1 _ I1 q1) fun u s2 ⟨y, H2, I2, r2, q2⟩ =>
    thn (ho pins s2 σ H2 x y v u _ I2 r1 r2 q2) fun d s3 ⟨z, H3, I3, r3, q3⟩ => ?_)) hm
  obtain ⟨k, e, q3⟩ := isB_ex q3
  subst e
  cases r3
  refine wpAny_truthy_bool ?_
  cases k with
  | false => exact ite_ff ⟨H3, I3, q3⟩
  | true =>
    refine ite_tt (test_last (thn (hc.run pins s3 σ H3 _ I3 q3) fun w' s4 ⟨z', H4, I4, r4, q4⟩ => thn (ho' pins s4 σ H4 y z' u w' _ I4 r2 r4 q4) fun d' s5 ⟨z2, H5, I5, r5, q5⟩ => ?_))
    obtain ⟨k2, e2, q5⟩ := isB_ex q5
    subst e2
    cases r5
    exact wpAny_truthy_bool ⟨H5, I5, q5⟩
theorem pw_and {X : Cx} {a b : Expr} {rest : List Expr} {tA tB' : TT} {pos : Pos} (ha : PT X a tA) (hb : PW X (.BoolOp .And (b :: rest) pos) tB') : PW X (.BoolOp .And (a :: b :: rest) pos) (dAnd tA tB') := by
  refine ⟨fun wh pins s σ H Q I h => ?_⟩
  refine isTrue_and (thn (ha.run pins s σ H _ I h) fun c s1 ⟨H1, I1, q1⟩ => ?_)
  cases c with
  | true => exact hb.run wh pins s1 σ H1 Q I1 q1
  | false => exact ⟨H1, I1, q1⟩
theorem pw_or {X : Cx} {a b : Expr} {rest : List Expr} {tA tB' : TT} {pos : Pos} (ha : PT X a tA) (hb : PW X (.BoolOp .Or (b :: rest) pos) tB') : PW X (.BoolOp .Or (a :: b :: rest) pos) (dOr tA tB') := by
  refine ⟨fun wh pins s σ H Q I h => ?_⟩
  refine isTrue_or (thn (ha.run pins s σ H _ I h) fun c s1 ⟨H1, I1, q1⟩ => ?_)
  cases c with
  | true => exact ⟨H1, I1, q1⟩
  | false => exact hb.run wh pins s1 σ H1 Q I1 q1
theorem pt_not {X : Cx} {a : Expr} {tA : TT} {pos : Pos} (ha : PT X a tA) : PT X (.UnaryOp .Not a pos) (dNot tA) := L2.pt_not ha
theorem ps_if {X : Cx} {c : Expr} {a b : List Stmt} {tc : TT} {t u : TS} {pos : Pos} (hc : PT X c tc) (ha : PSs X a t) (hb : PSs X b u) : PS X (.If c a b pos) (dIfS tc t u) := by
  refine ⟨fun pins s σ H D I h => ?_⟩
  refine wpAny_If (thn (hc.run pins s σ H _ I h) fun d s1 ⟨H1, I1, q1⟩ => ?_)
  cases d with
  | true => exact ha.run pins s1 σ H1 D I1 q1
  | false => exact hb.run pins s1 σ H1 D I1 q1
/-- and, or as values: all but the last True or False -/
def dAndV (ta tb : TE) : TE := fun σ H Q => ta σ H (isB fun c H1 => bIf c (tb σ H1 Q) (Q (.bl false) H1))
def dOrV (ta tb : TE) : TE := fun σ H Q => ta σ H (isB fun c H1 => bIf c (Q (.bl true) H1) (tb σ H1 Q))
def dNotV (ta : TE) : TE := fun σ H Q => ta σ H (isB fun c H1 => Q (.bl (!c)) H1)
theorem pe_and {X : Cx} {a b : Expr} {rest : List Expr} {ta tb : TE} {pos : Pos} (ha : PE X a ta) (hb : PE X (.BoolOp .And (b :: rest) pos) tb) : PE X (.BoolOp .And (a :: b :: rest) pos) (dAndV ta tb) := by
  refine ⟨fun pins s σ H Q I h => ?_⟩
  refine BoolOp_and (thn (ha.run pins s σ H _ I h) fun v s1 ⟨x, H1, I1, r1, q1⟩ => ?_)
  obtain ⟨c, e, q⟩ := isB_ex q1
  subst e
  cases r1
  refine wpAny_truthy_bool ?_
  cases c with
  | true => exact hb.run pins s1 σ H1 Q I1 q
  | false => exact ⟨.bl false, H1, I1, rfl, q⟩
theorem pe_or {X : Cx} {a b : Expr} {rest : List Expr} {ta tb : TE} {pos : Pos} (ha : PE X a ta) (hb : PE X (.BoolOp .Or (b :: rest) pos) tb) : PE X (.BoolOp .Or (a :: b :: rest) pos) (dOrV ta tb) := by
  refine ⟨fun pins s σ H Q I h => ?_⟩
  refine BoolOp_or (thn (ha.run pins s σ H _ I h) fun v s1 ⟨x, H1, I1, r1, q1⟩ => ?_)
  obtain ⟨c, e, q⟩ := isB_ex q1
  subst e
  cases r1
  refine wpAny_truthy_bool ?_
  cases c with
  | true => exact ⟨.bl true, H1, I1, rfl, q⟩
  | false => exact hb.run pins s1 σ H1 Q I1 q
theorem pe_not {X : Cx} {a : Expr} {ta : TE} {pos : Pos} (ha : PE X a ta) : PE X (.UnaryOp .Not a pos) (dNotV ta) := by
  refine ⟨fun pins s σ H Q I h => ?_⟩
  refine UnaryOp_ (thn (ha.run pins s σ H _ I h) fun v s1 ⟨x, H1, I1, r1, q1⟩ => ?_)
  obtain ⟨c, e, q⟩ := isB_ex q1
  subst e
  cases r1
  exact not_of (wpAny_truthy_bool ⟨.bl (!c), H1, I1, rfl, q⟩)
/-! ### subscripts, slices -/
/-- the sign at i -/
structure AtS (z : Str) (i : Int) (k : Nat → Prop) : Prop where
  ex : ∃ c, atI z.cps.toList i = some c ∧ k c
def oIx (K : Frag) : R2 := fun x y H Q => match x, y with
  | .ref p, .int i => Rd K H p fun xs => At xs i fun v => Q v H
  | .str z, .int i => Need (z.length ≤ sizeLine) (AtS z i fun c => Q (.str ⟨#[c]⟩) H)
  | _, _ => False
theorem ix_any {X : Cx} : IxR X (oIx X.K) := IxR.of ix_seq fun x y H Q q => by
  cases x <;> cases y <;> try exact q.elim
  · obtain ⟨hz, ⟨c, e, q⟩⟩ := q
    exact .inr (.inr ⟨_, _, c, rfl, rfl, hz, e, q⟩)
  · obtain ⟨⟨xs, hs, ⟨v, e, q⟩⟩⟩ := q
    rcases hs with hs | hs
    · exact .inl ⟨_, xs, _, v, rfl, rfl, hs, e, q⟩
    · exact .inr (.inl ⟨_, xs, _, v, rfl, rfl, hs, e, q⟩)
def dPart (t : TE) : TO := fun σ H Q => t σ H fun x H1 => match x with
  | .int i => Q (some i) H1
  | _ => False
theorem po_some {X : Cx} {e : Expr} {te : TE} (h : PE X e te) : PO X (some e) (dPart te) := by
  refine ⟨fun pins s σ H Q I q => ?_⟩
  rw [evalPart_some]
  refine thn (h.run pins s σ H _ I q) fun u s1 ⟨x, H1, I1, r1, q1⟩ => ?_
  cases x <;> try exact q1.elim
  obtain ⟨t, rfl⟩ := r1
  exact ⟨_, H1, I1, .int _ t, q1⟩
/-- a slice of the list, of the tuple at p -/
structure Cut (K : Frag) (H : Hp) (p : Addr) (lo hi : Option Int) (Q : V → Hp → Prop) : Prop where
  ex : (∃ xs, SqL K H p xs ∧ ∀ q, H q = none → Q (.ref q) (upd H q (.lst (cutV xs lo hi)))) ∨ (∃ xs, SqT K H p xs ∧ ∀ q H', Same H H' → SqT K H' q (cutV xs lo hi) → Q (.ref q) H')
theorem Cut.l {K : Frag} {H : Hp} {p : Addr} {lo hi : Option Int} {Q : V → Hp → Prop} {xs : List V} (h : SqL K H p xs) (q : ∀ q, H q = none → Q (.ref q) (upd H q (.lst (cutV xs lo hi)))) : Cut K H p lo hi Q := ⟨.inl ⟨xs, h, q⟩⟩
theorem Cut.t {K : Frag} {H : Hp} {p : Addr} {lo hi : Option Int} {Q : V → Hp → Prop} {xs : List V} (h : SqT K H p xs) (q : ∀ q H', Same H H' → SqT K H' q (cutV xs lo hi) → Q (.ref q) H') : Cut K H p lo hi Q := ⟨.inr ⟨xs, h, q⟩⟩
def oSl (K : Frag) : V → Option Int → Option Int → Hp → VK → Prop := fun x lo hi H Q => match x with
  | .ref p => Cut K H p lo hi Q
  | _ => False
theorem SlR.of {X : Cx} {r r' : V → Option Int → Option Int → Hp → VK → Prop} (h : SlR X r) (i : ∀ x l u H Q, r' x l u H Q → r x l u H Q) : SlR X r' := fun pins s σ H x v vl vu lo hi sl Q I rx hs pl pu q => h pins s σ H x v vl vu lo hi sl Q I rx hs pl pu (i x lo hi H Q q)
theorem cut_whole {xs : List V} {lo hi : Option Int} (h : HT.sIx xs.length 0 lo = 0 ∧ HT.sIx xs.length xs.length hi = xs.length) : cutV xs lo hi = xs := by
  unfold cutV
  rw [h.1, h.2]
  simp
theorem sl_any {X : Cx} : SlR X (oSl X.K) := SlR.of (sl_list.or sl_tupA) fun x lo hi H Q q => by
  cases x <;> try exact q.elim
  rcases q.ex with ⟨xs, h, q⟩ | ⟨xs, h, q⟩
  · exact .inl ⟨_, xs, rfl, h, q⟩
  · refine .inr ⟨_, xs, rfl, h, fun w => ?_, fun _ p hp => q _ _ (same_new hp) (SqT.of upd_same)⟩
    exact q _ _ (Same.refl _) (by rw [cut_whole w]; exact h)
/-! ### displays -/
def dLst (t : TA) : TE := fun σ H Q => t σ H fun xs H1 => Need (xs.length ≤ sizeLine) (NewL H1 xs Q)
def dTup (K : Frag) (t : TA) : TE := fun σ H Q => t σ H fun xs H1 => Need (xs.length ≤ sizeLine) (NewT K H1 xs Q)
theorem pe_tup {X : Cx} {es : List Expr} {t : TA} {x1} {pos : Pos} (h : PA X es t) : PE X (.Tuple es x1 pos) (dTup X.K t) := by
  refine ⟨fun pins s σ H Q I hq => ?_⟩
  refine wpAny_Tuple_spliced (thn (h.run pos pins s σ H _ I hq) fun us s1 ⟨xs, H1, I1, r, ⟨z, ⟨q⟩⟩⟩ => ⟨by rw [← r.length]; exact z, ?_⟩)
  have hf : H1 s1.heap.objs.size = none := I1.hok.fresh (Nat.le_refl _)
  refine ⟨.ref s1.heap.objs.size, upd H1 s1.heap.objs.size (.tup xs), I1.laid (t' := s1.toks) (fun b u e => Heap.get?_push_of_some _ e) (Nat.le_refl _) ?_, rfl, q _ _ (same_new hf) (SqT.of upd_same)⟩
  exact ⟨z, us, r, ⟨_, Heap.get?_push_size _ rfl, rfl, _, rfl⟩⟩
theorem pe_lst {X : Cx} {es : List Expr} {t : TA} {pos : Pos} (h : PA X es t) : PE X (.List es pos) (dLst t) := by
  refine ⟨fun pins s σ H Q I hq => ?_⟩
  refine wpAny_List_spliced (thn (h.run pos pins s σ H _ I hq) fun us s1 ⟨xs, H1, I1, r, ⟨z, ⟨q⟩⟩⟩ => ⟨by rw [← r.length]; exact z, ?_⟩)
  have hf : H1 s1.heap.objs.size = none := I1.hok.fresh (Nat.le_refl _)
  refine ⟨.ref s1.heap.objs.size, upd H1 s1.heap.objs.size (.lst xs), I1.laid (t' := s1.toks) (fun b u e => Heap.get?_push_of_some _ e) (Nat.le_refl _) ?_, rfl, q _ hf⟩
  exact ⟨z, us, 0, r, Heap.get?_push_size _ rfl⟩
/-! ### builtin calls -/
def cLen (K : Frag) : List V → Hp → VK → Prop := fun xs H Q => match xs with
  | [.str z] => Need (z.length ≤ sizeLine) (Q (.int z.length) H)
  | [.ref p] => Rd K H p fun ys => Q (.int ys.length) H
  | _ => False
theorem c_len {X : Cx} : CallR X (.builtin "len") (cLen X.K) := CallR.of (call_len_seq.or call_len_str) fun xs H Q q => by
  match xs, q with
  | [.str z], q => exact .inr ⟨z, rfl, q.c, q.q⟩
  | [.ref p], ⟨⟨ys, h, q⟩⟩ => exact .inl ⟨p, ys, rfl, h, q⟩
def cTuple (K : Frag) : List V → Hp → VK → Prop := fun xs H Q => match xs with
  | [.ref p] => Rd K H p fun ys => NewT K H ys Q
  | _ => False
theorem c_tuple {X : Cx} : CallR X (.type "tuple") (cTuple X.K) := CallR.of call_tuple_of fun xs H Q q => by
  match xs, q with
  | [.ref p], ⟨⟨ys, h, ⟨q⟩⟩⟩ =>
    refine ⟨p, ys, rfl, ?_⟩
    rcases h with h | h
    · exact .inl ⟨h, fun l hl => q _ _ (same_new hl) (SqT.of upd_same)⟩
    · exact .inr ⟨h, q _ _ (Same.refl _) h⟩
def cList (K : Frag) : List V → Hp → VK → Prop := fun xs H Q => match xs with
  | [.ref p] => Rd K H p fun ys => NewL H ys Q
  | _ => False
theorem c_list {X : Cx} : CallR X (.type "list") (cList X.K) := CallR.of call_list_of fun xs H Q q => by
  match xs, q with
  | [.ref p], ⟨⟨ys, h, ⟨q⟩⟩⟩ => exact ⟨p, ys, rfl, h, q⟩
def b2i (b : Bool) : Int := match b with
  | true => 1
  | false => 0
def cInt : List V → Hp → VK → Prop := fun xs H Q => match xs with
  | [.int i] => Q (.int i) H
  | [.bl b] => Q (.int (b2i b)) H
  | _ => False
theorem c_int {X : Cx} : CallR X (.type "int") cInt := CallR.of call_int1 fun xs H Q q => by
  match xs, q with
  | [.int i], q => exact .inl ⟨_, rfl, q⟩
  | [.bl b], q =>
    refine .inr ⟨_, rfl, ?_⟩
    cases b <;> exact q
def cAbs : List V → Hp → VK → Prop := fun xs H Q => match xs with
  | [.int i] => Q (.int (i.natAbs : Int)) H
  | _ => False
theorem c_abs {X : Cx} : CallR X (.builtin "abs") cAbs := CallR.of call_abs fun xs H Q q => by
  match xs, q with
  | [.int i], q =>
    refine ⟨_, rfl, ?_⟩
    have e : (if i < 0 then -i else i) = (i.natAbs : Int) := by split <;> omega
    rw [e]; exact q
def cMax2 : List V → Hp → VK → Prop := fun xs H Q => match xs with
  | [.int i, .int j] => Q (.int (max i j)) H
  | _ => False
theorem c_max2 {X : Cx} (hc : X.calm = true) : CallR X (.builtin "max") cMax2 := CallR.of (call_max2 hc) fun xs H Q q => by
  match xs, q with
  | [.int i, .int j], q =>
    refine ⟨_, _, rfl, ?_⟩
    have e : (if j > i then j else i) = max i j := by split <;> omega
    rw [e]; exact q
def cMin2 : List V → Hp → VK → Prop := fun xs H Q => match xs with
  | [.int i, .int j] => Q (.int (min i j)) H
  | _ => False
theorem c_min2 {X : Cx} (hc : X.calm = true) : CallR X (.builtin "min") cMin2 := CallR.of (call_min2 hc) fun xs H Q q => by
  match xs, q with
  | [.int i, .int j], q =>
    refine ⟨_, _, rfl, ?_⟩
    have e : (if j < i then j else i) = min i j := by split <;> omega
    rw [e]; exact q
/-- isinstance(x, T), one class -/
structure Isi (K : Frag) (H : Hp) (x : V) (u : Value) (k : Bool → Prop) : Prop where
  ex : (∃ t b, TyX K H x t ∧ PySem.W.kitOne K t u = some b ∧ k b) ∨ (∃ a C dx vs b, x = .ref a ∧ SlX.Slt H a C dx vs ∧ SlX.SCls K C ∧ SlX.SIsi K C ∧ PySem.W.kitOne K (.ref C) u = some b ∧ k b)
theorem Isi.of {K : Frag} {H : Hp} {x : V} {u t : Value} {b : Bool} {k : Bool → Prop} (h : TyX K H x t) (e : PySem.W.kitOne K t u = some b) (q : k b) : Isi K H x u k := ⟨.inl ⟨t, b, h, e, q⟩⟩
def cIsi (K : Frag) : List V → Hp → VK → Prop := fun xs H Q => match xs with
  | [x, .ty n] => Isi K H x (.type n) fun b => Q (.bl b) H
  | [x, .ref C] => Isi K H x (.ref C) fun b => Q (.bl b) H
  | _ => False
theorem c_isi {X : Cx} : CallR X (.builtin "isinstance") (cIsi X.K) := by
  intro pins s σ H xs us Q I r q
  match xs, q with
  | [x, .ty n], ⟨.inl ⟨t, b, h1, h2, q⟩⟩ => exact call_isi pins s σ H _ us Q I r ⟨x, _, t, _, b, rfl, .ty n, h1, h2, q⟩
  | [x, .ref C], ⟨.inl ⟨t, b, h1, h2, q⟩⟩ => exact call_isi pins s σ H _ us Q I r ⟨x, _, t, _, b, rfl, .own C, h1, h2, q⟩
  | [x, .ty n], ⟨.inr ⟨a, C, dx, vs, b, e, h1, h2, h3, h4, q⟩⟩ =>
    subst e
    exact SlX.call_isiSl (.type n) pins s σ H _ us Q I r ⟨a, C, dx, vs, _, b, rfl, rfl, fun w z => z, h1, h2, h3, h4, q⟩
  | [x, .ref D], ⟨.inr ⟨a, C, dx, vs, b, e, h1, h2, h3, h4, q⟩⟩ =>
    subst e
    exact SlX.call_isiSl (.ref D) pins s σ H _ us Q I r ⟨a, C, dx, vs, _, b, rfl, rfl, fun w z => z, h1, h2, h3, h4, q⟩
/-! ### methods of lists -/
/-- a list stands at p -/
structure IsL (K : Frag) (H : Hp) (p : Addr) (q : Prop) : Prop where
  ex : ∃ xs, SqL K H p xs
  q : q
theorem IsL.of {K : Frag} {H : Hp} {p : Addr} {q : Prop} {xs : List V} (h : H p = some (.lst xs)) (q1 : q) : IsL K H p q := ⟨⟨xs, SqL.of h⟩, q1⟩
def dML (K : Frag) (r : V → List V → Hp → VK → Prop) (to : TE) (t : TA) : TE := fun σ H Q => to σ H fun x H1 => match x with
  | .ref l => IsL K H1 l (t σ H1 fun vs H2 => r (.ref l) vs H2 Q)
  | _ => False
theorem pe_ml {X : Cx} {o e : Expr} {es : List Expr} {to : TE} {t : TA} {name : Str} {apos cpos : Pos} {id : String} {r : V → List V → Hp → VK → Prop} (slot : Slot "list" name id) (hty : typeOf (.builtin id) = pure (.type "method_descriptor")) (hm : MtR X id r) (ho : PE X o to) (ha : PA X (e :: es) t)
    (hbase : attributeBase o name X.env (eval o X.env) = eval o X.env := by rfl)
    (hfew : ((backTo cpos (starEach (e :: es) X.env)).all (fun x => !x.1) && (backToKw cpos (keywordEach [] X.env)).all (fun x => x.1.isSome)
      && decide ((e :: es).length + ([] : List Keyword).length + (if ([] : List Keyword).isEmpty then 0 else 1) < 30)) = true := by rfl)
    (hline : (apos.endLine == cpos.line) = true := by rfl) (hs : starEach (e :: es) X.env = (false, eval e X.env) :: starEach es X.env := by rfl) (hplain : (backTo cpos (starEach es X.env)).any (·.1) = false := by rfl) :
    PE X (.Call (.Attribute o name apos) (e :: es) [] cpos) (dML X.K r to t) := by
  refine ⟨fun pins s σ H Q I h => ?_⟩
  refine wpAny_Call_method_late hbase hfew hline rfl (thn (ho.run pins s σ H _ I h) fun v s1 ⟨x, H1, I1, r1, q1⟩ => ?_)
  cases x <;> try exact q1.elim
  obtain ⟨hx, q1⟩ := q1
  obtain ⟨h1, h2⟩ := tyV_is (T := "list") I1 r1 (.inl ⟨rfl, hx⟩)
  refine ⟨"list", id, PySem.F.plainAttrs_list, slot, hty, h1, h2, ?_⟩
  have hA := ha.run cpos pins s1 σ H1 _ I1 q1
  rw [hs] at hA ⊢
  refine Calls.callWith_builtin (by show (false || (backTo cpos (starEach es X.env)).any (·.1)) = false; rw [hplain] <;> rfl) (Calls.evalArgs_plain ?_)
  exact thn hA fun us s2 ⟨vs, H2, I2, r2, q2⟩ => hm pins s2 σ H2 _ vs _ us Q I2 r1 r2 q2
theorem pe_ml0 {X : Cx} {o : Expr} {to : TE} {name : Str} {apos cpos : Pos} {id : String} {r : V → List V → Hp → VK → Prop} (slot : Slot "list" name id) (hty : typeOf (.builtin id) = pure (.type "method_descriptor")) (hm : MtR X id r) (ho : PE X o to)
    (hbase : attributeBase o name X.env (eval o X.env) = eval o X.env := by rfl) (hline : (apos.endLine == cpos.line) = true := by rfl) : PE X (.Call (.Attribute o name apos) [] [] cpos) (dML X.K r to tNil) := by
  refine ⟨fun pins s σ H Q I h => ?_⟩
  refine wpAny_Call_method0_late hbase hline (thn (ho.run pins s σ H _ I h) fun v s1 ⟨x, H1, I1, r1, q1⟩ => ?_)
  cases x <;> try exact q1.elim
  obtain ⟨hx, q1⟩ := q1
  obtain ⟨h1, h2⟩ := tyV_is (T := "list") I1 r1 (.inl ⟨rfl, hx⟩)
  exact ⟨"list", id, PySem.F.plainAttrs_list, slot, hty, h1, h2, Calls.callWith_builtin rfl (PySem.evalArgs_none (hm pins s1 σ H1 _ [] _ [] Q I1 r1 .nil q1))⟩
theorem MtR.of {X : Cx} {id : String} {r r' : V → List V → Hp → VK → Prop} (h : MtR X id r) (i : ∀ x xs H Q, r' x xs H Q → r x xs H Q) : MtR X id r' := fun pins s σ H x xs v us Q I rx rs q => h pins s σ H x xs v us Q I rx rs (i x xs H Q q)
abbrev M2 := V → List V → Hp → VK → Prop
/-- the list at x changed -/
def mL (f : List V → List V → Hp → (V → List V → Prop) → Prop) : M2 := fun x vs H Q => match x with
  | .ref l => Ls H l fun xs => f xs vs H fun z ys => Q z (upd H l (.lst ys))
  | _ => False
def mApp : M2 := mL fun xs vs _ k => match vs with
  | [y] => Need (xs.length < sizeLine) (k .non (xs ++ [y]))
  | _ => False
theorem m_app {X : Cx} : MtR X "list.append" mApp := MtR.of mt_append fun x vs H Q q => by
  cases x <;> try exact q.elim
  match vs, q with
  | [y], ⟨⟨xs, h, ⟨hz, q⟩⟩⟩ => exact ⟨_, xs, y, rfl, rfl, h, hz, q⟩
theorem at_last {xs : List V} {y : V} (h : atI xs (-1) = some y) : xs[xs.length - 1]? = some y := by
  unfold atI ixN at h
  rw [if_neg (by decide)] at h
  by_cases hn : -(xs.length : Int) ≤ -1
  · rw [if_pos hn, Option.bind_some] at h
    have e : (-1 + (xs.length : Int)).toNat = xs.length - 1 := by omega
    rw [e] at h
    exact h
  · rw [if_neg hn] at h
    cases h
def mPop : M2 := mL fun xs vs _ k => match vs with
  | [] => At xs (-1) fun y => k y xs.dropLast
  | _ => False
theorem m_pop {X : Cx} : MtR X "list.pop" mPop := MtR.of mt_pop fun x vs H Q q => by
  cases x <;> try exact q.elim
  match vs, q with
  | [], ⟨⟨xs, h, ⟨y, hy, q⟩⟩⟩ => exact ⟨_, xs, y, rfl, rfl, h, at_last hy, q⟩
def mRev : M2 := mL fun xs vs _ k => match vs with
  | [] => k .non xs.reverse
  | _ => False
theorem m_rev {X : Cx} : MtR X "list.reverse" mRev := MtR.of mt_reverse fun x vs H Q q => by
  cases x <;> try exact q.elim
  match vs, q with
  | [], ⟨⟨xs, h, q⟩⟩ => exact ⟨_, xs, rfl, rfl, h, q⟩
/-! ### stores -/
/-- the place i in n -/
structure Pl (n : Nat) (i : Int) (k : Nat → Prop) : Prop where
  ex : ∃ j, ixN n i = some j ∧ k j
theorem Pl.of {n : Nat} {i : Int} {k : Nat → Prop} {j : Nat} (h : ixN n i = some j) (q : k j) : Pl n i k := ⟨j, h, q⟩
def oSet : V → V → V → Hp → (Hp → Prop) → Prop := fun o i v H Q => match o, i with
  | .ref p, .int k => Ls H p fun xs => Pl xs.length k fun j => Q (upd H p (.lst (xs.set j v)))
  | _, _ => False
theorem s_list {X : Cx} : PSet X oSet := fun pins s σ H o i v uo ui uv Q I ro ri rv q => by
  cases o <;> cases i <;> try exact q.elim
  obtain ⟨⟨xs, h, ⟨j, e, q⟩⟩⟩ := q
  exact set_list pins s σ H _ _ v uo ui uv Q I ro ri rv ⟨_, xs, _, j, rfl, rfl, h, e, q⟩
/-! ### loops over a list or a tuple -/
/-- the list or the tuple at a is walked -/
structure Walk (K : Frag) (H : Hp) (a : Addr) (R : It → Hp → Prop) : Prop where
  ex : ((∃ xs, SqL K H a xs) ∧ R (Itl K a) H) ∨ ((∃ xs, SqT K H a xs) ∧ R (Itt K a) H)
def iSm (K : Frag) (x : V) (H : Hp) (R : It → Hp → Prop) : Prop := match x with
  | .ref a => Walk K H a R
  | _ => False
def iSeq (K : Frag) (tl : TE) : TI := fun σ H R => tl σ H fun x H1 => iSm K x H1 R
theorem pi_seq {X : Cx} {tg l : Expr} {tl : TE} (hl : PE X l tl) : PI X tg l (iSeq X.K tl) := by
  refine ⟨fun pins s σ H R I h => ?_⟩
  refine thn (hl.run pins s σ H _ I h) fun v s1 ⟨x, H1, I1, r1, q1⟩ => ?_
  cases x <;> try exact q1.elim
  cases r1
  rcases q1.ex with ⟨⟨xs, hq⟩, q⟩ | ⟨⟨xs, hq⟩, q⟩
  · obtain ⟨its, rv, p, hz⟩ := I1.list hq
    refine wpAny_pyIter_list p.isList ?_
    refine ⟨s1.heap.objs.size, [s1.heap.objs.size], _, _, H1, rfl, I1.kept (t' := s1.toks) fun b o e => Heap.get?_push_of_some _ e, turn_list _ _, ⟨_, Heap.get?_push_size _ rfl, rfl, rfl⟩, fun b hb => ?_, q⟩
    have e : b = s1.heap.objs.size := by simpa using hb
    subst e
    exact I1.fpOk (Nat.le_refl _) (I1.hok.fresh (Nat.le_refl _))
  · obtain ⟨its, rv, p, hz⟩ := I1.tuple hq
    refine wpAny_pyIter_tuple (show s1.heap.IsTuple _ its.toArray from p) ?_
    refine ⟨s1.heap.objs.size, [s1.heap.objs.size], _, _, H1, rfl, I1.kept (t' := s1.toks) fun b o e => Heap.get?_push_of_some _ e, turn_tuple _ _, ⟨_, Heap.get?_push_size _ rfl, rfl, rfl⟩, fun b hb => ?_, q⟩
    have e : b = s1.heap.objs.size := by simpa using hb
    subst e
    exact I1.fpOk (Nat.le_refl _) (I1.hok.fresh (Nat.le_refl _))
/-- what a loop asks of its walk -/
def LoopR (D : Ends) (g : TG) (tb : TS) (σ : L2.St) : It → Hp → Prop := fun J H1 => ∃ W : Nat → Nat → L2.St → Hp → Prop, (∃ m, W 0 m σ H1) ∧ ∀ i m σ H, W i m σ H →
  (J.stop i H ∧ D.nx σ H) ∨ (J.go i H ∧ ∃ N : L2.St → Hp → Prop, (∀ σ' H', N σ' H' → ∃ m', m' < m ∧ W (i + 1) m' σ' H') ∧ ∀ x H', J.yld i H x H' → g x σ H' fun σ2 H2 => tb { D with nx := N, ct := N, bk := D.nx } σ2 H2)
def dFor (wi : TI) (g : TG) (tb : TS) : TS := fun D σ H => wi σ H (LoopR D g tb σ)
theorem ps_for {X : Cx} {tg iter : Expr} {body : List Stmt} {wi : TI} {g : TG} {tb : TS} {pos : Pos} (hp : PassesOwn (model X.prog X.w) X.A X.env X.xe) (hc : X.calm = true) (hi : PI X tg iter wi) (hg : PG X tg g) (hb : PSs X body tb)
    (hs : ∀ x, foldedSetIterable iter X.env x = pure x := by intro _; rfl) : PS X (.For tg iter body [] pos) (dFor wi g tb) := L2.ps_for hp hc hi hg hb hs
/-- the sequence at p stands as it stood -/
def Stay (K : Frag) (p : Addr) (H H' : Hp) : Prop := ∀ xs, (SqL K H p xs → SqL K H' p xs) ∧ (SqT K H p xs → SqT K H' p xs)
theorem Same.tup {K : Frag} {H H' : Hp} {a : Addr} {xs : List V} (e : Same H H') (h : SqT K H a xs) : SqT K H' a xs := by
  rcases h with (h | ⟨o, h⟩) | h
  · exact .inl (.inl (e _ _ h))
  · exact .inl (.inr ⟨o, e _ _ h⟩)
  · exact .inr h
theorem Same.sqa {K : Frag} {H H' : Hp} {a : Addr} {xs : List V} (e : Same H H') (h : SqA K H a xs) : SqA K H' a xs := h.imp e.seq (Same.tup e)
theorem Same.stay {K : Frag} {H H' : Hp} {a : Addr} (e : Same H H') : Stay K a H H' := fun _ => ⟨e.seq, Same.tup e⟩
/-- all but what stands at st stays -/
def SameX (st : Addr) (H H' : Hp) : Prop := ∀ b o, H b = some o → b ≠ st → H' b = some o
theorem SameX.refl (st : Addr) (H : Hp) : SameX st H H := fun _ _ h _ => h
theorem SameX.trans {st : Addr} {H H1 H2 : Hp} (a : SameX st H H1) (b : SameX st H1 H2) : SameX st H H2 := fun c o h n => b c o (a c o h n) n
theorem SameX.then {st : Addr} {H H1 H2 : Hp} (a : SameX st H H1) (b : Same H1 H2) : SameX st H H2 := fun c o h n => b c o (a c o h n)
theorem Same.thenX {st : Addr} {H H1 H2 : Hp} (a : Same H H1) (b : SameX st H1 H2) : SameX st H H2 := fun c o h n => b c o (a c o h) n
theorem Same.x {st : Addr} {H H1 : Hp} (a : Same H H1) : SameX st H H1 := fun c o h _ => a c o h
theorem SameX.upd {st : Addr} {H : Hp} {o : HO} : SameX st H (upd H st o) := fun b u h n => by rw [upd_ne n]; exact h
/-- what st was made behind H0 -/
theorem SameX.same {st : Addr} {H0 H H' : Hp} (a : Same H0 H) (b : SameX st H H') (n : H0 st = none) : Same H0 H' := fun c o h => b c o (a c o h) (ne_of_none h n)
theorem SameX.seq {K : Frag} {st : Addr} {H H' : Hp} {a : Addr} {xs : List V} (e : SameX st H H') (h : SqL K H a xs) (n : a ≠ st) : SqL K H' a xs := by
  rcases h with (h | ⟨o, h⟩) | h
  · exact .inl (.inl (e _ _ h n))
  · exact .inl (.inr ⟨o, e _ _ h n⟩)
  · exact .inr h
theorem SameX.tup {K : Frag} {st : Addr} {H H' : Hp} {a : Addr} {xs ys : List V} (e : SameX st H H') (h : SqT K H a xs) (hst : H st = some (.lst ys)) : SqT K H' a xs := by
  rcases h with (h | ⟨o, h⟩) | h
  · exact .inl (.inl (e _ _ h (ne_of h hst (by intro z; cases z))))
  · exact .inl (.inr ⟨o, e _ _ h (ne_of h hst (by intro z; cases z))⟩)
  · exact .inr h
theorem sl_upd {K : Frag} {H : Hp} {a p : Addr} {o : HO} {xs : List V} (h : SqL K H a xs) (n : a ≠ p) : SqL K (upd H p o) a xs := by
  rcases h with (h | ⟨u, h⟩) | h
  · exact .inl (.inl (by rw [upd_ne n]; exact h))
  · exact .inl (.inr ⟨u, by rw [upd_ne n]; exact h⟩)
  · exact .inr h
theorem st_upd {K : Frag} {H : Hp} {a p : Addr} {o : HO} {xs : List V} (h : SqT K H a xs) (n : a ≠ p) : SqT K (upd H p o) a xs := by
  rcases h with (h | ⟨u, h⟩) | h
  · exact .inl (.inl (by rw [upd_ne n]; exact h))
  · exact .inl (.inr ⟨u, by rw [upd_ne n]; exact h⟩)
  · exact .inr h
theorem up_of {H : Hp} {a p : Addr} {o u : HO} (n : a ≠ p) (h : H a = some u) : upd H p o a = some u := by rw [upd_ne n]; exact h
theorem SameX.put {st : Addr} {H0 H1 : Hp} {o : HO} (e : SameX st H0 H1) : SameX st H0 (L2.upd H1 st o) := e.trans SameX.upd
theorem appS {K : Frag} {H H1 : Hp} {a st : Addr} {xs : List V} (h : ∀ H1, SameX st H H1 → SqL K H1 a xs) (e : SameX st H H1) : SqL K H1 a xs := h H1 e
/-- over a list or a tuple that the body leaves as it is -/
theorem for_seq {K : Frag} {p : Addr} {xs : List V} {g : TG} {tb : TS} {D : Ends} {σ : L2.St} {H : Hp} (Pv : Nat → L2.St → Hp → Prop) (hx : SqA K H p xs) (h0 : Pv 0 σ H) (hl : ∀ i σ H', i ≤ xs.length → Pv i σ H' → Stay K p H H')
    (hs : ∀ i x σ H, xs[i]? = some x → Pv i σ H → g x σ H fun σ2 H2 => tb { D with nx := Pv (i + 1), ct := Pv (i + 1), bk := D.nx } σ2 H2) (hd : ∀ σ H, Pv xs.length σ H → D.nx σ H) :
    Walk K H p (LoopR D g tb σ) := by
  rcases hx with hx | hx
  · exact ⟨.inl ⟨⟨xs, hx⟩, for_list Pv h0 (fun i σ H' hi q => (hl i σ H' hi q xs).1 hx) hs hd⟩⟩
  · exact ⟨.inr ⟨⟨xs, hx⟩, for_tup Pv h0 (fun i σ H' hi q => (hl i σ H' hi q xs).2 hx) hs hd⟩⟩
/-! ### ranges -/
def iR1 (vs : List V) (H : Hp) (R : It → Hp → Prop) : Prop := match vs with
  | [.int j] => Need (-(2 ^ 62) ≤ j ∧ j < 2 ^ 62) (R (Itr 0 j.toNat) H)
  | _ => False
def iRng (ta : TA) : TI := fun σ H R => ta σ H fun vs H1 => iR1 vs H1 R
theorem pi_rng {X : Cx} {tg a : Expr} {ta : TA} {p pos : Pos} (hg : Gl X "range") (hm : X.mg "range" = none) (ha : PA X [a] ta) (hs : starEach [a] X.env = [(false, eval a X.env)] := by rfl) : PI X tg (.Call (.Name "range" p) [a] [] pos) (iRng ta) := by
  refine ⟨fun pins s σ H R I h => ?_⟩
  refine Call_ (ld_blt I hg hm boot_range (PyProof.Rows.callWith_type1 (thn (ha.run pos pins s σ H _ I h) fun us s1 ⟨vs, H1, I1, r1, q1⟩ => ?_) hs rfl))
  match vs, q1 with
  | [.int j], ⟨⟨q1, q2⟩, q⟩ =>
    cases r1 with
    | cons r rr =>
      cases rr
      obtain ⟨t, rfl⟩ := r
      exact call_range_1 (range_it I1 (by omega) (by omega) q1 q2 (by simpa using q))
theorem for_rng {n : Int} {g : TG} {tb : TS} {D : Ends} {σ : L2.St} {H : Hp} (Pv : Nat → L2.St → Hp → Prop) (h0 : Pv 0 σ H)
    (hs : ∀ (i : Nat) σ H, (i : Int) < n → Pv i σ H → g (.int i) σ H fun σ2 H2 => tb { D with nx := Pv (i + 1), ct := Pv (i + 1), bk := D.nx } σ2 H2) (hd : ∀ σ H, Pv n.toNat σ H → D.nx σ H) :
    LoopR D g tb σ (Itr 0 n.toNat) H := by
  refine L2.for_range (lo := 0) Pv h0 (fun i σ H hi q => ?_) hd
  have z := hs i σ H (by omega) q
  rw [Int.zero_add]; exact z
/-! ### while -/
def WhileR (c : TT) (tb : TS) (D : Ends) (σ : L2.St) (H : Hp) : Prop := ∃ W : Nat → L2.St → Hp → Prop, (∃ m, W m σ H) ∧ ∀ m σ H, W m σ H →
  c σ H fun b H1 => bIf b (tb { D with nx := fun σ' H' => ∃ m', m' < m ∧ W m' σ' H', ct := fun σ' H' => ∃ m', m' < m ∧ W m' σ' H', bk := D.nx } σ H1) (D.nx σ H1)
structure Loop (c : TT) (tb : TS) (D : Ends) (σ : L2.St) (H : Hp) : Prop where
  ex : WhileR c tb D σ H
def dWhile (c : TT) (tb : TS) : TS := fun D σ H => Loop c tb D σ H
theorem ps_while {X : Cx} {c : Expr} {body : List Stmt} {tc : TT} {tb : TS} {pos : Pos} (hp : PassesOwn (model X.prog X.w) X.A X.env X.xe) (hc : PT X c tc) (hb : PSs X body tb) : PS X (.While c body [] pos) (dWhile tc tb) := by
  refine ⟨fun pins s σ H D I h => ?_⟩
  obtain ⟨⟨W, ⟨m0, w0⟩, turn⟩⟩ := h
  refine wpAny_While (codeAny_whileLoop (fun n s' => ∃ σ' H', Inv X pins σ' H' s' ∧ W n σ' H') ?_ m0 ⟨σ, H, I, w0⟩)
  rintro n s1 ⟨σ1, H1, I1, w1⟩
  refine wpAny_passesOwn hp (thn (hc.run pins s1 σ1 H1 _ I1 (turn n σ1 H1 w1)) fun b s2 ⟨H2, I2, q2⟩ => ?_)
  cases b with
  | true =>
    rw [if_pos rfl]
    refine wpAny_passesOwn hp (thn (hb.run pins s2 σ1 H2 _ I2 q2) fun f s3 q3 => ?_)
    cases f with
    | next =>
      obtain ⟨σ3, H3, I3, m', hm, w3⟩ := q3
      exact ⟨m', hm, σ3, H3, I3, w3⟩
    | cont =>
      obtain ⟨σ3, H3, I3, m', hm, w3⟩ := q3
      exact ⟨m', hm, σ3, H3, I3, w3⟩
    | brk => exact q3
    | ret v => exact q3
  | false =>
    rw [if_neg Bool.false_ne_true]
    exact wpAny_execs_nil ⟨σ1, H2, I2, q2⟩
/-! ### calls of the module's defs, by positional promises -/
/-- f(e, ..): what is raised is wished for at the caller's slots -/
def dCall (sp : Sp) (E : L2.St → XK) (t : TA) : TE := fun σ H Q => t σ H fun vs H1 => sp vs H1 Q (E σ)
section
variable {X : Cx} {k : Nat} {g : Addr} {sp : Sp} {E : L2.St → XK} {x : Str} {p pos : Pos} {e : Expr} {es : List Expr} {t : TA}
theorem run_R {pins : List (Addr × Obj)} {σ : L2.St} {H : Hp} {s : Shared} {Q : VK} {us : List Value} {vs : List V} (F : FnR X.prog X.w X.K X.mg X.base (L2.CX X.prog X.w) k g sp) (hr : Room k X.A) (hx : PassesAt (L2.CX X.prog X.w) X σ (E σ))
    (I : Inv X pins σ H s) (r : Vals vs us) (h : sp vs H Q (E σ)) : wpAny (model X.prog X.w) X.A (call (.ref g) us) (EP X pins σ Q) X.xe s := by
  refine wpAny_call (codeAny_mono (F X.A X.stack s H us vs Q (E σ) hr I.env0 r h) fun r s' hq => ?_)
  cases r with
  | error e => exact hx pins H s e s' I hq
  | ok fl =>
    cases fl with
    | ret u => exact I.after hq
    | next => exact False.elim hq
    | brk => exact False.elim hq
    | cont => exact False.elim hq
theorem pe_call (F : FnR X.prog X.w X.K X.mg X.base (L2.CX X.prog X.w) k g sp) (hr : Room k X.A) (hm : X.mg x = some (.ref g)) (hk : PySem.W.keepIn X.K (.ref g) = true) (hx : ∀ σ, PassesAt (L2.CX X.prog X.w) X σ (E σ))
    (ha : PA X (e :: es) t) (hg : Gl X x := by rfl) (hdb : (x == ("__debug__" : Str)) = false := by decide) (he : starEach (e :: es) X.env = (false, eval e X.env) :: starEach es X.env := by rfl) (hpl : (backTo pos (starEach es X.env)).any (·.1) = false := by rfl) :
    PE X (.Call (.Name x p) (e :: es) [] pos) (dCall sp E t) := by
  refine ⟨fun pins s σ H Q I h => ?_⟩
  refine wpAny_Call_Name_kw (ld_glob I hg hm ?_ hdb)
  refine PySem.W.callWith_K (h₀ := X.base) I.ok.mod.kin hk (thn (ha.run pos pins s σ H _ I h) fun us s1 ⟨vs, H1, I1, r, q⟩ => ⟨I1.kIn, ?_⟩) he hpl
  exact run_R F hr (hx σ) I1 r q
end
/-- f(e, ..), f a built-in function | type -/
theorem pe_cb {X : Cx} {x : Str} {p pos : Pos} {e : Expr} {es : List Expr} {t : TA} {id : String} {r : List V → Hp → VK → Prop} (hc : CallR X (.builtin id) r) (hm : X.mg x = none) (hv : bootBuiltins x = some (.builtin id)) (ha : PA X (e :: es) t) (hg : Gl X x := by rfl) (hn : x ≠ "__name__" := by decide) (hdb : (x == ("__debug__" : Str)) = false := by decide)
    (he : starEach (e :: es) X.env = (false, eval e X.env) :: starEach es X.env := by rfl) (hpl : (backTo pos (starEach es X.env)).any (·.1) = false := by rfl) : PE X (.Call (.Name x p) (e :: es) [] pos) (tCB r t) := pe_callB hc hg hm hv ha hn hdb he hpl
theorem pe_ct {X : Cx} {x : Str} {p pos : Pos} {e : Expr} {es : List Expr} {t : TA} {T : String} {r : List V → Hp → VK → Prop} (hc : CallR X (.type T) r) (hm : X.mg x = none) (hv : bootBuiltins x = some (.type T)) (ha : PA X (e :: es) t) (hg : Gl X x := by rfl) (hn : x ≠ "__name__" := by decide) (hdb : (x == ("__debug__" : Str)) = false := by decide)
    (he : starEach (e :: es) X.env = (false, eval e X.env) :: starEach es X.env := by rfl) (hpl : (backTo pos (starEach es X.env)).any (·.1) = false := by rfl) : PE X (.Call (.Name x p) (e :: es) [] pos) (tCB r t) := pe_callTy hc hg hm hv ha hn hdb he hpl
/-- a built-in's name as a value -/
theorem pe_bt {X : Cx} {x : Str} {n : String} {pos : Pos} (hm : X.mg x = none) (hv : bootBuiltins x = some (.type n)) (hg : Gl X x := by rfl) (hn : x ≠ "__name__" := by decide) (hd : (x == ("__debug__" : Str)) = false := by decide) : PE X (.Name x pos) (tC (.ty n)) := pe_bltn hg hm hv rfl hn hd
/-! ### a def by its body -/
section
variable {P : Program} {w : World} {K : Frag} {mg : Str → Option Value} {base : Heap}
abbrev FR (P : Program) (w : World) (K : Frag) (mg : Str → Option Value) (base : Heap) (k : Nat) (f : Addr) (sp : Sp) : Prop := FnR P w K mg base (L2.CX P w) k f sp
/-- the context of a def's body -/
abbrev cxD (P : Program) (w : World) (K : Frag) (mg : Str → Option Value) (base : Heap) (N : List Str) (qual : Str) (scope : Scope) (f : Addr) (cd : Value) (A : Around) (outer : List Env) (s : Shared) (H : Hp) (E : XK) : Cx := cxOf (L2.CX P w) P w K mg base N qual scope f cd A outer s H E
theorem mk_fn {x qual : Str} {params : Arguments} {body : List Stmt} {scope : Scope} {f : Addr} {fd : FuncData} {N ps : List Str} {k : Nat} {sp : Sp} (F : FunD K x qual params body scope [] [] f fd) (S : FnScope N ps scope) (len : ∀ vs H Q E, sp vs H Q E → vs.length = ps.length)
    (hb : ∀ (kV doc pm : Value) (an : Option Addr) (cdv ct : Value) (us : List Value), us.length = ps.length → bindArgs (PySem.W.fnOf x qual params body scope .none kV doc pm an cdv ct) ⟨us, []⟩ = pure (ps.zip us)) {t : XK → TS}
    (hbody : ∀ (cdv : Value) (A : Around) (outer : List Env) (s : Shared) (H : Hp) (E : XK), Room k (A.deeper (envOfC qual scope s.heap.objs.size f cdv)) →
      PSs (cxD P w K mg base N qual scope f cdv A outer s H E) body (t E))
    (pure : ∀ vs H Q E, sp vs H Q E → t E { nx := fun _ H' => Q .non H', rt := Q } (start N vs) H) : FR P w K mg base (k + 1) f sp := by
  have z := (FunD.ok (P := P) (w := w) (mg := mg) (base := base) (CX := L2.CX P w) (sp := sp) F S len fun cdv A outer s H vs Q E hr h => ⟨t E, hbody cdv A outer s H E hr, pure vs H Q E h⟩).raw (F.bindsN hb) .nil
  intro A outer s H us vs Q E hr e0 r hs
  exact z A outer s H us vs Q E hr e0 r (by show sp (vs ++ []) H Q E; rw [List.append_nil]; exact hs)
end
/-- the wish of a def's body: what leaves it leaves the def -/
abbrev EW (E : XK) : L2.St → XK := fun _ => E
theorem passD {P : Program} {w : World} {K : Frag} {mg : Str → Option Value} {base : Heap} {N : List Str} {qual : Str} {scope : Scope} {f : Addr} {cd : Value} {A : Around} {outer : List Env} {s : Shared} {H : Hp} {E : XK} :
    ∀ σ, PassesAt (L2.CX P w) (cxD P w K mg base N qual scope f cd A outer s H E) σ (EW E σ) := fun σ => passAt (takes_of rfl rfl rfl rfl) σ
theorem ownD {P : Program} {w : World} {K : Frag} {mg : Str → Option Value} {base : Heap} {N : List Str} {qual : Str} {scope : Scope} {f : Addr} {cd : Value} {A : Around} {outer : List Env} {s : Shared} {H : Hp} {E : XK} :
    PassesOwn (model P w) (cxD P w K mg base N qual scope f cd A outer s H E).A (cxD P w K mg base N qual scope f cd A outer s H E).env (cxD P w K mg base N qual scope f cd A outer s H E).xe := passes_of rfl
/-! ### named rests: the walk stops there -/
structure Stop (t : TS) (D : Ends) (σ : L2.St) (H : Hp) : Prop where
  go : t D σ H
def stop (t : TS) : TS := fun D σ H => Stop t D σ H
theorem pss_stop {X : Cx} {st : List Stmt} {t : TS} (h : PSs X st t) : PSs X st (stop t) := ⟨fun pins s σ H D I q => h.run pins s σ H D I q.go⟩
/-! ### the law's own def: nothing leaves it -/
theorem passL0 {X : Cx} : ∀ σ, PassesAt (L2.CX X.prog X.w) X σ (EW E0 σ) := fun _ _ _ _ _ _ _ h => by
  obtain ⟨_, _, _, _, _, _, _, _, _, _, _, _, z⟩ := h
  exact z.elim
theorem mk_law {P : Program} {w : World} {K : Frag} {mg : Str → Option Value} {base : Heap} {x qual : Str} {params : Arguments} {body : List Stmt} {scope : Scope} {f : Addr} {fd : FuncData} {N ps : List Str} {k : Nat} {sp : Sp} (F : FunD K x qual params body scope [] [] f fd) (S : FnScope N ps scope) (len : ∀ vs H Q E, sp vs H Q E → vs.length = ps.length)
    {t : XK → TS} (hbody : ∀ (cdv : Value) (A : Around) (outer : List Env) (s : Shared) (H : Hp) (E : XK), Room k (A.deeper (envOfC qual scope s.heap.objs.size f cdv)) →
      PSs (cxOf CX0 P w K mg base N qual scope f cdv A outer s H E).nox body (t E0))
    (pure : ∀ vs H Q E, sp vs H Q E → t E0 { nx := fun _ H' => Q .non H', rt := Q } (start N vs) H) : FnOk P w K mg base CX0 (k + 1) f fd ps sp :=
  FunD.ok F S len fun cdv A outer s H vs Q E hr h => ⟨t E0, PSs.nox (hbody cdv A outer s H E hr), pure vs H Q E h⟩
/-! ### comprehensions with one for -/
structure Wr (R : It → Hp → Prop) (J : It) (H : Hp) : Prop where
  go : R J H
theorem pi_wr {X : Cx} {tg iter : Expr} {wi : TI} (h : PI X tg iter wi) : PI X tg iter (fun σ H R => wi σ H (Wr R)) := ⟨fun pins s σ H R I q =>
  thn (h.run pins s σ H (Wr R) I q) fun _ _ z => thn z fun _ _ ⟨it, fp, tn, J, H', e, I', T, t0, f, r⟩ => ⟨it, fp, tn, J, H', e, I', T, t0, f, r.go⟩⟩
def LcGo (g : TG) (tt : TT) (te : TE) (vs : List Nat) (σ : L2.St) (Q : VK) (J : It) (H1 : Hp) : Prop :=
  ∀ D, H1 D = none → ∃ W : Nat → Nat → Hp → Prop, (∃ m, W 0 m (upd H1 D (.lst []))) ∧ ∀ i m H, W i m H →
    (J.stop i H ∧ Q (.ref D) H) ∨ (J.go i H ∧ ∃ Nx : Hp → Prop, (∀ H', Nx H' → ∃ m', m' < m ∧ W (i + 1) m' H') ∧ ∀ x H', J.yld i H x H' → g x (wipe σ vs) H' fun σ2 H2 => wipe σ2 vs = wipe σ vs ∧ tt σ2 H2 fun b H3 =>
      if b = true then te σ2 H3 fun y H4 => ∃ acc, H4 D = some (.lst acc) ∧ acc.length < sizeLine ∧ Nx (upd H4 D (.lst (acc ++ [y]))) else Nx H3)
def dLc (wi : TI) (g : TG) (tt : TT) (te : TE) (vs : List Nat) : TE := fun σ H Q => wi σ H (Wr (LcGo g tt te vs σ Q))
theorem pe_lc {X : Cx} {elt tg iter : Expr} {ifs : List Expr} {scope : Scope} {own : List (Str × Nat)} {pos : Pos} {wi : TI} {g : TG} {tt : TT} {te : TE} (hc : X.calm = true) (hN : X.N.Nodup) (hi : PI X tg iter wi) (ok : BlkOk X.N X.env.scope scope own)
    (hg : ∀ (s : Shared) (H : Hp) (C : Addr) (cl : List (Str × Addr)) (fp : List Addr), PG (X.blk s H scope (compEnvC scope cl C X.env) fp) tg g) (ht : ∀ (s : Shared) (H : Hp) (C : Addr) (cl : List (Str × Addr)) (fp : List Addr), PTs (X.blk s H scope (compEnvC scope cl C X.env) fp) ifs tt)
    (he : ∀ (s : Shared) (H : Hp) (C : Addr) (cl : List (Str × Addr)) (fp : List Addr), PE (X.blk s H scope (compEnvC scope cl C X.env) fp) elt te) (hs : ∀ x, foldedSetIterable iter X.env x = pure x := by intro _; rfl) :
    PE X (.ListComp elt [⟨tg, iter, ifs, 0⟩] scope pos) (dLc wi g tt te (own.map (·.2))) := L2.pe_lc hc hN (pi_wr hi) ok hg ht he hs
theorem ps_setLc {X : Cx} {i : Nat} {y : Str} {py : Pos} {elt tg iter : Expr} {ifs : List Expr} {scope : Scope} {own : List (Str × Nat)} {pos spos : Pos} {wi : TI} {g : TG} {tt : TT} {te : TE} (hc : X.calm = true) (hN : X.N.Nodup) (hy : X.N[i]? = some y) (hyl : X.env.scope.names.lookup y = some .local)
    (hsw : swapsWith (.ListComp elt [⟨tg, iter, ifs, 0⟩] scope pos) (some (.Name y py)) spos.line X.env = pure true) (hi : PI X tg iter wi) (ok : BlkOk X.N X.env.scope scope own)
    (hg : ∀ (s : Shared) (H : Hp) (C : Addr) (cl : List (Str × Addr)) (fp : List Addr), PG (X.blk s H scope (compEnvC scope cl C X.env) fp) tg g) (ht : ∀ (s : Shared) (H : Hp) (C : Addr) (cl : List (Str × Addr)) (fp : List Addr), PTs (X.blk s H scope (compEnvC scope cl C X.env) fp) ifs tt)
    (he : ∀ (s : Shared) (H : Hp) (C : Addr) (cl : List (Str × Addr)) (fp : List Addr), PE (X.blk s H scope (compEnvC scope cl C X.env) fp) elt te) (hs : ∀ x, foldedSetIterable iter X.env x = pure x := by intro _; rfl) :
    PS X (.Assign [.Name y py] (.ListComp elt [⟨tg, iter, ifs, 0⟩] scope pos) spos) (tAsg (dLc wi g tt te (own.map (·.2))) (gName i)) := L2.ps_setLc hc hN hy hyl hsw (pi_wr hi) ok hg ht he hs
/-- over a list or a tuple, by a word over (turn, heap): the new list stands at D -/
theorem lc_seq {K : Frag} {p : Addr} {xs : List V} {g : TG} {tt : TT} {te : TE} {vs : List Nat} {σ : L2.St} {H1 : Hp} {Q : VK} (hx : SqA K H1 p xs)
    (h : ∀ D, H1 D = none → ∃ Pv : Nat → Hp → Prop, Pv 0 (upd H1 D (.lst [])) ∧ (∀ i H, i ≤ xs.length → Pv i H → ∀ ys, (SqL K H1 p ys → SqL K H p ys) ∧ (SqT K H1 p ys → SqT K H p ys)) ∧
      (∀ i x H, xs[i]? = some x → Pv i H → g x (wipe σ vs) H fun σ2 H2 => wipe σ2 vs = wipe σ vs ∧ tt σ2 H2 fun b H3 =>
        if b = true then te σ2 H3 fun y H4 => ∃ acc, H4 D = some (.lst acc) ∧ acc.length < sizeLine ∧ Pv (i + 1) (upd H4 D (.lst (acc ++ [y]))) else Pv (i + 1) H3) ∧ (∀ H, Pv xs.length H → Q (.ref D) H)) :
    Walk K H1 p (Wr (LcGo g tt te vs σ Q)) := by
  rcases hx with hx | hx
  · refine ⟨.inl ⟨⟨xs, hx⟩, ⟨fun D hD => ?_⟩⟩⟩
    obtain ⟨Pv, h0, hl, hs, hd⟩ := h D hD
    exact lc_list (Qd := fun H => Q (.ref D) H) Pv h0 (fun i H hi q => (hl i H hi q xs).1 hx) hs hd
  · refine ⟨.inr ⟨⟨xs, hx⟩, ⟨fun D hD => ?_⟩⟩⟩
    obtain ⟨Pv, h0, hl, hs, hd⟩ := h D hD
    exact lc_tup (Qd := fun H => Q (.ref D) H) Pv h0 (fun i H hi q => (hl i H hi q xs).2 hx) hs hd
/-- all but lists stays (dicts too) -/
def SameI (H H' : Hp) : Prop := ∀ b o, H b = some o → (∀ l, o ≠ .lst l) → H' b = some o
theorem Same.i {H H' : Hp} (e : Same H H') : SameI H H' := fun b o h _ => e b o h
theorem SameI.trans {H H1 H2 : Hp} (a : SameI H H1) (b : SameI H1 H2) : SameI H H2 := fun c o h n => b c o (a c o h n) n
theorem SameI.lst {H : Hp} {p : Addr} {xs ys : List V} (h : H p = some (.lst xs)) : SameI H (L2.upd H p (.lst ys)) := fun b o hb n => by
  by_cases e : b = p
  · subst e; rw [h] at hb; exact absurd (Option.some.inj hb).symm (n xs)
  · rw [upd_ne e]; exact hb
theorem SameX.i {st : Addr} {H H' : Hp} {xs : List V} (e : SameX st H H') (h : H st = some (.lst xs)) : SameI H H' := fun b o hb n => e b o hb fun z => by
  subst z; rw [h] at hb; exact n xs (Option.some.inj hb).symm
theorem SameI.tup {K : Frag} {H H' : Hp} {a : Addr} {xs : List V} (e : SameI H H') (h : SqT K H a xs) : SqT K H' a xs := by
  rcases h with (h | ⟨o, h⟩) | h
  · exact .inl (.inl (e _ _ h fun _ z => by cases z))
  · exact .inl (.inr ⟨o, e _ _ h fun _ z => by cases z⟩)
  · exact .inr h
theorem take_filter {xs : List V} {pr : V → Bool} {i : Nat} {x : V} (h : xs[i]? = some x) : (xs.take (i + 1)).filter pr = (xs.take i).filter pr ++ (if pr x = true then [x] else []) := by
  rw [List.take_succ, h, List.filter_append]
  congr 1
  show [x].filter pr = _
  by_cases e : pr x = true <;> simp [e]
/-- .. whose test is told by a function of the item, its elements by a relation -/
theorem lc_rel {K : Frag} {p : Addr} {xs : List V} {g : TG} {tt : TT} {te : TE} {vs : List Nat} {σ : L2.St} {H1 : Hp} {Q : VK} (R : V → V → Hp → Prop) (pr : V → Bool) (hx : SqA K H1 p xs) (hz : xs.length < sizeLine) (mono : ∀ x y H H', R x y H → SameI H H' → R x y H')
    (hs : ∀ x H (A : V → Hp → Prop) (B : Hp → Prop), x ∈ xs → Same H1 H → (∀ y H', Same H H' → R x y H' → pr x = true → A y H') → (∀ H', Same H H' → pr x = false → B H') →
      g x (wipe σ vs) H fun σ2 H2 => wipe σ2 vs = wipe σ vs ∧ tt σ2 H2 fun b H3 => if b = true then te σ2 H3 A else B H3)
    (hd : ∀ D ys H', H1 D = none → H' D = some (.lst ys) → Paired (fun x y => R x y H') (xs.filter pr) ys → Same H1 H' → Q (.ref D) H') :
    Walk K H1 p (Wr (LcGo g tt te vs σ Q)) := by
  refine lc_seq hx fun D hD => ⟨fun i H => ∃ ys, H D = some (.lst ys) ∧ Paired (fun x y => R x y H) ((xs.take i).filter pr) ys ∧ Same H1 H, ⟨[], upd_same, .nil, same_new hD⟩, fun i H _ ⟨_, _, _, e⟩ ys => ⟨e.seq, Same.tup e⟩, ?_, fun H ⟨ys, h1, h2, e⟩ => hd D ys H hD h1 (by rw [List.take_length] at h2; exact h2) e⟩
  rintro i x H hi ⟨ys, h1, h2, e⟩
  have hlen : ys.length ≤ i := by
    rw [← h2.length]
    exact Nat.le_trans (List.length_filter_le _ _) (by rw [List.length_take]; exact Nat.min_le_left _ _)
  have hil : i < xs.length := (List.getElem?_eq_some_iff.mp hi).1
  refine hs x H _ _ (List.mem_of_getElem? hi) e (fun y H' e2 r hp => ⟨ys, e2 _ _ h1, by omega, ys ++ [y], upd_same, ?_, ?_⟩) fun H' e2 hp => ⟨ys, e2 _ _ h1, ?_, e.trans e2⟩
  · have si : SameI H' (upd H' D (.lst (ys ++ [y]))) := SameI.lst (e2 _ _ h1)
    rw [take_filter hi, if_pos hp]
    exact Paired.snoc (Paired.mapP h2 fun a b r => mono _ _ _ _ r (SameI.trans (Same.i e2) si)) (mono _ _ _ _ r si)
  · intro b o hb
    rw [upd_ne (ne_of_none hb hD)]
    exact e2 _ _ (e _ _ hb)
  · rw [take_filter hi, if_neg (by rw [hp]; exact Bool.false_ne_true), List.append_nil]
    exact Paired.mapP h2 fun a b r => mono _ _ _ _ r (Same.i e2)
/-- .. whose test and elements are told by functions of the item -/
theorem lc_map {K : Frag} {p : Addr} {xs : List V} {g : TG} {tt : TT} {te : TE} {vs : List Nat} {σ : L2.St} {H1 : Hp} {Q : VK} (f : V → V) (pr : V → Bool) (hx : SqA K H1 p xs) (hz : xs.length < sizeLine)
    (hs : ∀ x H (A : V → Hp → Prop) (B : Hp → Prop), x ∈ xs → Same H1 H → (∀ H', Same H H' → pr x = true → A (f x) H') → (∀ H', Same H H' → pr x = false → B H') →
      g x (wipe σ vs) H fun σ2 H2 => wipe σ2 vs = wipe σ vs ∧ tt σ2 H2 fun b H3 => if b = true then te σ2 H3 A else B H3)
    (hd : ∀ D H', H1 D = none → H' D = some (.lst ((xs.filter pr).map f)) → Same H1 H' → Q (.ref D) H') :
    Walk K H1 p (Wr (LcGo g tt te vs σ Q)) := by
  refine lc_rel (fun x y _ => y = f x) pr hx hz (fun _ _ _ _ r _ => r) (fun x H A B hm e hA hB => hs x H A B hm e (fun H' e2 hp => hA _ _ e2 rfl hp) hB) fun D ys H' hn hD hp e => hd D H' hn ?_ e
  have key : ∀ {as bs : List V}, Paired (fun x y => y = f x) as bs → bs = as.map f := by
    intro as bs h
    induction h with
    | nil => rfl
    | cons r _ ih => rw [r, ih]; rfl
  rw [← key hp]; exact hD
end S
namespace S
open PySem PySem.Spec PyProof.Rows L2
/-! ### classes by their names -/
/-- the class x: below the classes ups of the text and the built-in ones tys -/
structure MF (K : Frag) (x : Str) (ups : List Str) (tys : List String) : Prop where
  cd : ∃ cd, PySem.W.clsIn K (He.ga K x) = some cd ∧ cd.name = x ∧ cd.mro = (x :: ups).map (fun y => Value.ref (He.ga K y)) ++ tys.map Value.type
  up : ∀ y ∈ ups, ∃ cd, PySem.W.clsIn K (He.ga K y) = some cd ∧ cd.name = y
  ty : PySem.W.typeIn K (.ref (He.ga K x)) = some (.type "type")
theorem nmB_ok {K : Frag} {y : Str} (h : nmB K y = true) : ∃ cd, PySem.W.clsIn K (He.ga K y) = some cd ∧ cd.name = y := by
  unfold nmB at h
  split at h
  · rename_i cd e
    exact ⟨cd, e, of_decide_eq_true h⟩
  · cases h
theorem mfB_ok {K : Frag} {x : Str} {ups : List Str} {tys : List String} (h : mfB K x ups tys = true) : MF K x ups tys := by
  unfold mfB at h
  obtain ⟨h1, h2⟩ := He.ba h
  obtain ⟨h3, h4⟩ := He.ba h2
  refine ⟨?_, fun y hy => nmB_ok (List.all_eq_true.mp h3 y hy), of_decide_eq_true h4⟩
  split at h1
  · rename_i cd e
    obtain ⟨h5, h6⟩ := He.ba h1
    exact ⟨cd, e, of_decide_eq_true h5, of_decide_eq_true h6⟩
  · cases h1
theorem nm_inj {K : Frag} {x y : Str} (h1 : ∃ cd, PySem.W.clsIn K (He.ga K x) = some cd ∧ cd.name = x) (h2 : ∃ cd, PySem.W.clsIn K (He.ga K y) = some cd ∧ cd.name = y) (e : He.ga K x = He.ga K y) : x = y := by
  obtain ⟨c1, e1, n1⟩ := h1
  obtain ⟨c2, e2, n2⟩ := h2
  rw [e, e2] at e1
  cases e1
  exact n1.symm.trans n2
theorem MF.nm {K : Frag} {x : Str} {ups : List Str} {tys : List String} (m : MF K x ups tys) : ∃ cd, PySem.W.clsIn K (He.ga K x) = some cd ∧ cd.name = x := let ⟨cd, a, b, _⟩ := m.cd; ⟨cd, a, b⟩
theorem MF.all {K : Frag} {x : Str} {ups : List Str} {tys : List String} (m : MF K x ups tys) : ∀ y ∈ x :: ups, ∃ cd, PySem.W.clsIn K (He.ga K y) = some cd ∧ cd.name = y := fun y hy => by
  rcases List.mem_cons.mp hy with e | e
  · subst e; exact m.nm
  · exact m.up y e
section
variable {K : Frag} {x y : Str} {ups ups' : List Str} {tys tys' : List String}
theorem mf_sub (m : MF K x ups tys) (b : Value) : PySem.W.subIn K (.ref (He.ga K x)) b = some (decide (b ∈ (x :: ups).map (fun y => Value.ref (He.ga K y)) ++ tys.map Value.type)) := by
  obtain ⟨cd, e, _, hm⟩ := m.cd
  show PySem.W.mroIn K (He.ga K x) b = _
  unfold PySem.W.mroIn
  rw [e, Option.bind_some, hm, if_neg (by simp)]
  congr 1
  rw [Bool.eq_iff_iff]
  simp
theorem mf_cls (m : MF K x ups tys) (n : MF K y ups' tys') : PySem.W.kitCls K (.ref (He.ga K x)) (.ref (He.ga K y)) = some (decide (y ∈ x :: ups)) := by
  obtain ⟨cd, e, _⟩ := n.cd
  show (if ((PySem.W.clsIn K (He.ga K y)).isSome && PySem.W.typeIn K (.ref (He.ga K y)) == some (.type "type")) = true then PySem.W.subIn K (.ref (He.ga K x)) (.ref (He.ga K y)) else none) = _
  rw [if_pos (by rw [e, n.ty]; simp), mf_sub m]
  congr 1
  rw [decide_eq_decide]
  simp only [List.mem_append, List.mem_map]
  constructor
  · rintro (⟨z, hz, e⟩ | ⟨z, _, e⟩)
    · rw [← nm_inj (m.all z hz) n.nm (Value.ref.inj e)]
      exact hz
    · cases e
  · intro h
    exact .inl ⟨y, h, rfl⟩
theorem mf_kit (m : MF K x ups tys) (n : MF K y ups' tys') : PySem.W.kitOne K (.ref (He.ga K x)) (.ref (He.ga K y)) = some (decide (y ∈ x :: ups)) := by
  unfold PySem.W.kitOne
  split
  · rename_i h
    have e := nm_inj m.nm n.nm (Value.ref.inj (beq_iff_eq.mp h))
    subst e
    rw [decide_eq_true (List.mem_cons_self)]
  · exact mf_cls m n
theorem mf_exm (m : MF K x ups tys) (n : MF K y ups' tys') (hb : "BaseException" ∈ tys') : PySem.W.exmOne K (.ref (He.ga K x)) (.ref (He.ga K y)) = some (decide (y ∈ x :: ups)) := by
  unfold PySem.W.exmOne
  rw [if_pos, mf_cls m n]
  rw [mf_sub n, decide_eq_true]
  · rfl
  · exact List.mem_append.mpr (.inr (List.mem_map.mpr ⟨_, hb, rfl⟩))
end
/-! ### classes with slots -/
structure CF (K : Frag) (x : Str) (fs : List Str) : Prop where
  mf : MF K x [] ["object"]
  sc : SlX.SCls K (He.ga K x)
  si : SlX.SIsi K (He.ga K x)
  sl : ∀ i f, fs[i]? = some f → SlX.Slot1 K (He.ga K x) f (He.ma K (He.ga K x) f) i
theorem sclsB_ok {K : Frag} {C : Addr} (h : sclsB K C = true) : SlX.SCls K C := by
  obtain ⟨h1, h⟩ := He.ba h
  obtain ⟨h2, h⟩ := He.ba h
  obtain ⟨h3, h4⟩ := He.ba h
  exact ⟨h1, h2, h3, He.eqO_ok h4⟩
theorem sisiB_ok {K : Frag} {C : Addr} (h : sisiB K C = true) : SlX.SIsi K C := by
  obtain ⟨h1, h⟩ := He.ba h
  obtain ⟨h2, h⟩ := He.ba h
  obtain ⟨h3, h4⟩ := He.ba h
  exact ⟨He.eqO_ok h1, He.eqO_ok h2, of_decide_eq_true h3, of_decide_eq_true h4⟩
theorem slotB_ok {K : Frag} {C : Addr} {f : Str} {p : Addr} {i : Nat} (h : slotB K C f p i = true) : SlX.Slot1 K C f p i := by
  obtain ⟨h1, h⟩ := He.ba h
  obtain ⟨h2, h⟩ := He.ba h
  obtain ⟨h3, h⟩ := He.ba h
  obtain ⟨h4, h⟩ := He.ba h
  obtain ⟨h5, h6⟩ := He.ba h
  exact ⟨He.eqO_ok h1, He.eqO_ok h2, of_decide_eq_true h3, of_decide_eq_true h4, of_decide_eq_true h5, of_decide_eq_true h6⟩
theorem slotsB_ok {K : Frag} {C : Addr} : ∀ {fs : List Str} {n : Nat}, slotsB K C fs n = true → ∀ i f, fs[i]? = some f → SlX.Slot1 K C f (He.ma K C f) (n + i)
  | [], _, _, i, f, e => by simp at e
  | g :: r, n, h, i, f, e => by
    obtain ⟨h1, h2⟩ := He.ba (show (slotB K C g (He.ma K C g) n && slotsB K C r (n + 1)) = true from h)
    cases i with
    | zero =>
      have e' : g = f := by simpa using e
      subst e'
      exact slotB_ok h1
    | succ i =>
      have z := slotsB_ok h2 i f (by simpa using e)
      rw [show n + 1 + i = n + (i + 1) by omega] at z
      exact z
theorem cfB_ok {K : Frag} {x : Str} {fs : List Str} (h : cfB x fs K = true) : CF K x fs := by
  obtain ⟨h1, h⟩ := He.ba h
  obtain ⟨h2, h⟩ := He.ba h
  obtain ⟨h3, h4⟩ := He.ba h
  exact ⟨mfB_ok h1, sclsB_ok h2, sisiB_ok h3, fun i f e => by have z := slotsB_ok h4 i f e; rw [Nat.zero_add] at z; exact z⟩
/-! ### the exceptions -/
structure ExF (K : Frag) (x : Str) (ups : List Str) : Prop where
  mf : MF K x ups veTys
  ec : L2.ExcC K (He.ga K x)
theorem excB_ok {K : Frag} {D : Addr} (h : excB K D = true) : L2.ExcC K D := by
  obtain ⟨h1, h⟩ := He.ba h
  obtain ⟨h2, h⟩ := He.ba h
  obtain ⟨h3, h⟩ := He.ba h
  obtain ⟨h4, h⟩ := He.ba h
  obtain ⟨h5, h⟩ := He.ba h
  obtain ⟨h6, h⟩ := He.ba h
  obtain ⟨h7, h8⟩ := He.ba h
  exact ⟨He.eqO_ok h1, He.eqO_ok h2, of_decide_eq_true h3, h4, He.eqO_ok h5, He.eqO_ok h6, of_decide_eq_true h7, of_decide_eq_true h8⟩
theorem exfB_ok {K : Frag} {x : Str} {ups : List Str} (h : exfB x ups K = true) : ExF K x ups := by
  obtain ⟨h1, h2⟩ := He.ba h
  exact ⟨mfB_ok h1, excB_ok h2⟩
/-- what raising needs of a class without own __init__ -/
structure RsF (K : Frag) (x : Str) : Prop where
  q : PySem.W.excIn K (He.ga K x) He.veBase "ValueError.__new__" = true
  kp : PySem.W.keepIn K (.ref (He.ga K x)) = true
  sub : PySem.W.subIn K (.ref (He.ga K x)) (.type "BaseException") = some true
  ty : PySem.W.typeIn K (.ref (He.ga K x)) = some (.type "type")
theorem rsB_ok {K : Frag} {x : Str} (h : rsB x K = true) : RsF K x := let ⟨a, b, c, d⟩ := He.exc_ok h; ⟨a, b, c, d⟩
/-! ### given facts -/
def dGiv (P : Prop) (t : TE) : TE := fun σ H Q => P → t σ H Q
theorem pe_giv {X : Cx} {e : Expr} {P : Prop} {t : TE} (p : P) (h : PE X e t) : PE X e (dGiv P t) := ⟨fun pins s σ H Q I q => h.run pins s σ H Q I (q p)⟩
def dGivS (P : Prop) (t : TS) : TS := fun D σ H => P → t D σ H
theorem ps_giv {X : Cx} {e : Stmt} {P : Prop} {t : TS} (p : P) (h : PS X e t) : PS X e (dGivS P t) := ⟨fun pins s σ H Q I q => h.run pins s σ H Q I (q p)⟩
/-! ### attributes -/
structure Atr (K : Frag) (H : Hp) (a : Addr) (f : Str) (k : V → Prop) : Prop where
  ex : (∃ C dx p vs i v, SlX.Slt H a C dx vs ∧ SlX.SCls K C ∧ SlX.Slot1 K C f p i ∧ vs[i]? = some (some v) ∧ k v) ∨ (∃ C dx fs v, H a = some (.ins C dx fs) ∧ Cls K C ∧ NoAttr K C f ∧ fs.lookup f = some v ∧ k v)
theorem Atr.sl {K : Frag} {H : Hp} {a dx : Addr} {f x : Str} {k : V → Prop} {fs : List Str} {vs : List (Option V)} {i : Nat} {v : V} (c : CF K x fs) (h : SlX.Slt H a (He.ga K x) dx vs) (e : fs[i]? = some f) (l : vs[i]? = some (some v)) (q : k v) : Atr K H a f k := ⟨.inl ⟨_, dx, _, vs, i, v, h, c.sc, c.sl i f e, l, q⟩⟩
def dAt (K : Frag) (f : Str) (ta : TE) : TE := fun σ H Q => ta σ H fun x H1 => match x with
  | .ref a => Atr K H1 a f fun v => Q v H1
  | _ => False
theorem pe_at {X : Cx} {e : Expr} {f : Str} {pos : Pos} {ta : TE} (he : PE X e ta) (hb : attributeBase e f X.env (eval e X.env) = eval e X.env := by rfl) : PE X (.Attribute e f pos) (dAt X.K f ta) := by
  refine ⟨fun pins s σ H Q I h => ?_⟩
  refine attr_of hb (thn (he.run pins s σ H _ I h) fun u s1 ⟨x, H1, I1, rx, q⟩ => ?_)
  cases x <;> try exact q.elim
  cases rx
  rcases q.ex with ⟨C, dx, p, vs, i, v, hs, c, t, l, q⟩ | ⟨C, dx, fs, v, ea, c, n, l, q⟩
  · exact SlX.getslot_ok I1 hs c t l fun u' s2 I2 ru => ⟨v, H1, I2, ru, q⟩
  · exact getattr_ok I1 ea c n l fun u' s2 I2 ru => ⟨v, H1, I2, ru, q⟩
structure Sto (K : Frag) (H : Hp) (a : Addr) (f : Str) (y : V) (k : Hp → Prop) : Prop where
  ex : (∃ C dx p vs i, SlX.Slt H a C dx vs ∧ SlX.SCls K C ∧ SlX.Slot1 K C f p i ∧ k (SlX.slH H a C dx (SlX.putS i y vs))) ∨ (∃ C dx fs, H a = some (.ins C dx fs) ∧ Cls K C ∧ NoAttr K C f ∧ fs.length < 1000 ∧ k (upd H a (.ins C dx (putF f y fs))))
theorem Sto.sl {K : Frag} {H : Hp} {a dx : Addr} {f x : Str} {k : Hp → Prop} {fs : List Str} {vs : List (Option V)} {i : Nat} {y : V} (c : CF K x fs) (h : SlX.Slt H a (He.ga K x) dx vs) (e : fs[i]? = some f) (q : k (SlX.slH H a (He.ga K x) dx (SlX.putS i y vs))) : Sto K H a f y k := ⟨.inl ⟨_, dx, _, vs, i, h, c.sc, c.sl i f e, q⟩⟩
def dSto (K : Frag) (f : Str) (tv ta : TE) : TS := fun D σ H => tv σ H fun y H1 => ta σ H1 fun x H2 => match x with
  | .ref a => Sto K H2 a f y fun H3 => D.nx σ H3
  | _ => False
theorem ps_sto {X : Cx} {o value : Expr} {f : Str} {pos pos' : Pos} {ta tv : TE} (hv : PE X value tv) (ha : PE X o ta) (hs : swapsWith value (some (.Attribute o f pos')) pos.line X.env = pure false := by rfl) : PS X (.Assign [.Attribute o f pos'] value pos) (dSto X.K f tv ta) := by
  refine ⟨fun pins s σ H D I h => ?_⟩
  refine plainObj_wpAny_Assign_Attribute (thn (hv.run pins s σ H _ I h) fun u s1 ⟨y, H1, I1, ry, q⟩ => thn (ha.run pins s1 σ H1 _ I1 q) fun ov s2 ⟨x, H2, I2, rx, q2⟩ => ?_) hs
  cases x <;> try exact q2.elim
  cases rx
  rcases q2.ex with ⟨C, dx, p, vs, i, hsl, c, t, q2⟩ | ⟨C, dx, fs, ea, c, n, l, q2⟩
  · exact SlX.setslot_ok I2 hsl c t ry fun s3 I3 => ⟨σ, _, I3, q2⟩
  · exact setattr_ok I2 ea c n l ry fun s3 I3 => ⟨σ, _, I3, q2⟩
/-! ### new instances -/
structure NewI (K : Frag) (H : Hp) (c : Str) (k : Addr → Hp → Prop) : Prop where
  go : ∀ x dx, H x = none → H dx = none → dx ≠ x → k x (upd (upd H dx (.own x)) x (.ins (He.ga K c) dx []))
def dMake (K : Frag) (c : Str) (sp : Sp) (E : L2.St → XK) (t : TA) : TE := fun σ H Q => t σ H fun vs H1 => NewI K H1 c fun x H2 => sp (.ref x :: vs) H2 (fun v H3 => v = .non ∧ Q (.ref x) H3) (E σ)
section
variable {X : Cx} {k : Nat} {g : Addr} {sp : Sp} {E : L2.St → XK} {x c m : Str} {p pos apos : Pos} {e o : Expr} {es : List Expr} {t : TA} {ta : TE}
theorem run_mk {pins : List (Addr × Obj)} {σ : L2.St} {H : Hp} {s : Shared} {Q : VK} {us : List Value} {vs : List V} (M : Mk X.K (He.ga X.K c) g) (F : FnR X.prog X.w X.K X.mg X.base (L2.CX X.prog X.w) k g sp) (hr : Room (k + 1) X.A) (hx : PassesAt (L2.CX X.prog X.w) X σ (E σ))
    (I : Inv X pins σ H s) (r : Vals vs us) (h : NewI X.K H c fun x H2 => sp (.ref x :: vs) H2 (fun v H3 => v = .non ∧ Q (.ref x) H3) (E σ)) : wpAny (model X.prog X.w) X.A (call (.ref (He.ga X.K c)) us) (EP X pins σ Q) X.xe s := by
  have hq := h.go (s.heap.objs.size + 1) s.heap.objs.size (I.hok.fresh (Nat.le_succ _)) (I.hok.fresh (Nat.le_refl _)) (Nat.ne_of_lt (Nat.lt_succ_self _))
  have I2 := Inv.made (C := He.ga X.K c) I
  have r2 : Vals (V.ref (s.heap.objs.size + 1) :: vs) (Value.ref (s.heap.objs.size + 1) :: us) := .cons rfl r
  refine wpAny_call (make_map (f := g) I.kIn M.makes M.init (beq_iff_eq.mp M.fn) (codeAny_mono (F _ X.stack _ _ (Value.ref (s.heap.objs.size + 1) :: us) _ _ (E σ) (hr.make (He.ga X.K c) us []) (I2.env0.make (He.ga X.K c) us []) r2 hq) fun r s' hq' => ?_))
  cases r with
  | error e => exact hx pins _ _ e s' I2 hq'
  | ok fl =>
    cases fl with
    | ret u =>
      obtain ⟨v, H', I3, rv, ev, q3⟩ := I2.after hq'
      subst ev
      exact ⟨rv, ⟨V.ref (s.heap.objs.size + 1), H', I3, rfl, q3⟩⟩
    | next => exact False.elim hq'
    | brk => exact False.elim hq'
    | cont => exact False.elim hq'
theorem pe_mk (M : Mk X.K (He.ga X.K c) g) (F : FnR X.prog X.w X.K X.mg X.base (L2.CX X.prog X.w) k g sp) (hr : Room (k + 1) X.A) (hm : X.mg c = some (.ref (He.ga X.K c))) (hx : ∀ σ, PassesAt (L2.CX X.prog X.w) X σ (E σ))
    (ha : PA X (e :: es) t) (hg : Gl X c := by rfl) (hdb : (c == ("__debug__" : Str)) = false := by decide) (he : starEach (e :: es) X.env = (false, eval e X.env) :: starEach es X.env := by rfl) (hpl : (backTo pos (starEach es X.env)).any (·.1) = false := by rfl) :
    PE X (.Call (.Name c p) (e :: es) [] pos) (dMake X.K c sp E t) := by
  refine ⟨fun pins s σ H Q I h => ?_⟩
  refine wpAny_Call_Name_kw (ld_glob I hg hm ?_ hdb)
  refine PySem.W.callWith_K (h₀ := X.base) I.ok.mod.kin M.kp (thn (ha.run pos pins s σ H _ I h) fun us s1 ⟨vs, H1, I1, r, q⟩ => ⟨I1.kIn, ?_⟩) he hpl
  exact run_mk M F hr (hx σ) I1 r q
/-! ### methods of instances with slots -/
structure IsO (K : Frag) (H : Hp) (c : Str) (a : Addr) (q : Prop) : Prop where
  ex : ∃ dx vs, SlX.Slt H a (He.ga K c) dx vs
  q : q
theorem IsO.of {K : Frag} {H : Hp} {c : Str} {a dx : Addr} {q : Prop} {vs : List (Option V)} (h : SlX.Slt H a (He.ga K c) dx vs) (h2 : q) : IsO K H c a q := ⟨⟨dx, vs, h⟩, h2⟩
def dMeth (K : Frag) (c : Str) (sp : Sp) (E : L2.St → XK) (ta : TE) (t : TA) : TE := fun σ H Q => ta σ H fun x H1 => match x with
  | .ref a => IsO K H1 c a (t σ H1 fun ws H2 => sp (.ref a :: ws) H2 Q (E σ))
  | _ => False
theorem pe_meth {pl : Sem Bool} (hc : SlX.SCls X.K (He.ga X.K c)) (hm : Meth X.K (He.ga X.K c) m g) (F : FnR X.prog X.w X.K X.mg X.base (L2.CX X.prog X.w) k g sp) (hr : Room k X.A) (hx : ∀ σ, PassesAt (L2.CX X.prog X.w) X σ (E σ)) (he : PE X o ta) (ha : PA X (e :: es) t)
    (hst : starEach (e :: es) X.env = (false, eval e X.env) :: starEach es X.env := by rfl) (hpl : (backTo pos (starEach es X.env)).any (·.1) = false := by rfl)
    (ht : eval (.Call (.Attribute o m apos) (e :: es) [] pos) X.env = (do
      let ov ← eval o X.env
      standAt apos.atName
      let (f, first) ← holding [ov] (getMethod ov m pl)
      callWith pos f first (backTo pos (starEach (e :: es) X.env)) (backToKw pos (keywordEach [] X.env))) := by rfl) :
    PE X (.Call (.Attribute o m apos) (e :: es) [] pos) (dMeth X.K c sp E ta t) := by
  refine ⟨fun pins s σ H Q I h => ?_⟩
  refine PySem.W.methodCall_KW (pl := pl) (thn (he.run pins s σ H _ I h) fun u s1 ⟨x, H1, I1, rx, q⟩ => ?_) ht
  cases x <;> try exact q.elim
  cases rx
  obtain ⟨⟨dx, vs, hsl⟩, q⟩ := q
  refine SlX.getmethsl_ok I1 hsl hc hm ?_
  refine PySem.W.callWith_K (first := [.ref _]) (h₀ := X.base) I.ok.mod.kin hm.kp (thn (ha.run pos pins s1 σ H1 _ I1 q) fun us s2 ⟨ws, H2, I2, r, q2⟩ => ⟨I2.kIn, ?_⟩) hst hpl
  exact run_R (us := .ref _ :: us) (vs := .ref _ :: ws) F hr (hx σ) I2 (.cons rfl r) q2
/-- o.f, a property -/
structure PropF (K : Frag) (c f : Str) (g : Addr) : Prop where
  at_ : PySem.W.findIn K (.ref (He.ga K c)) f = some (some (.ref (He.ma K (He.ga K c) f)))
  get : PySem.W.specialIn K (.ref (He.ma K (He.ga K c) f)) "__get__" = some (some (.builtin "property.__get__"))
  tk : PySem.W.takesIn K (.ref (He.ma K (He.ga K c) f)) = some true
  rc : ∃ rest, PySem.W.recIn K (He.ma K (He.ga K c) f) "property" = some (.ref g :: rest)
def dProp (K : Frag) (c : Str) (sp : Sp) (ta : TE) : TE := fun σ H Q => ta σ H fun x H1 => match x with
  | .ref a => IsO K H1 c a (sp [.ref a] H1 Q E0)
  | _ => False
theorem pe_prop {f : Str} {n : Nat} (hc : SlX.SCls X.K (He.ga X.K c)) (pf : PropF X.K c f g) (F : FnR X.prog X.w X.K X.mg X.base (L2.CX X.prog X.w) n g sp) (hr : Room (n + 1) X.A) (he : PE X e ta)
    (hb : attributeBase e f X.env (eval e X.env) = eval e X.env := by rfl) : PE X (.Attribute e f pos) (dProp X.K c sp ta) := by
  refine ⟨fun pins s σ H Q I h => ?_⟩
  refine attr_of hb (thn (he.run pins s σ H _ I h) fun w s1 ⟨x, H1, I1, rx, q⟩ => ?_)
  cases x <;> try exact q.elim
  cases rx
  obtain ⟨⟨dx, vs, hsl⟩, q⟩ := q
  exact SlX.getprop_sl (CX := L2.CX X.prog X.w) (E := E0) I1 hsl hc pf.at_ pf.get pf.tk pf.rc F hr (fun _ _ _ _ h => by obtain ⟨_, _, _, _, _, _, _, _, _, _, _, _, z⟩ := h; exact z.elim) q
end
/-! ### raise, try -/
def WD (E : XK) : WX := fun c d _ H => E c d H
theorem takesD {P : Program} {w : World} {K : Frag} {mg : Str → Option Value} {base : Heap} {N : List Str} {qual : Str} {scope : Scope} {f : Addr} {cd : Value} {A : Around} {outer : List Env} {s : Shared} {H : Hp} {E : XK} :
    Takes (cxD P w K mg base N qual scope f cd A outer s H E) (WD E) := takes_of rfl rfl rfl rfl
def dRaise (K : Frag) (x : Str) (W : WX) : TS := fun _ σ H => W (.ref (He.ga K x)) none σ H
theorem ps_rs {X : Cx} {x m : Str} {j : Nat} {p p2 pos pos' : Pos} {W : WX} (tk : Takes X W) (r : RsF X.K x) (gC : X.mg x = some (.ref (He.ga X.K x))) (hc : X.calm = true := by rfl) (hg : Gl X x := by rfl) (hdb : (x == ("__debug__" : Str)) = false := by decide) :
    PS X (.Raise (some (.Call (.Name x p) [.Constant (.str m) j p2] [] pos)) none pos') (dRaise X.K x W) := ps_raise hc tk (pmk_own PySem.F.excBase_ValueError r.q gC r.kp (raises_own r.sub r.ty) hg hdb)
theorem hdl_yes {K : Frag} {cls c : Value} {i : Nat} {ts : Addr → Value → Option Addr → TS} {Wout : WX} {D : Ends} {d : Option Addr} {σ : L2.St} {H : Hp} (h : PySem.W.exmOne K cls c = some true)
    (q : ∀ a, H a = none → ts a cls d { nx := fun σ' H' => D.nx (σ'.set i none) H', rt := D.rt, bk := fun σ' H' => D.bk (σ'.set i none) H', ct := fun σ' H' => D.ct (σ'.set i none) H' } (σ.set i (some (.ref a))) H) : wAs K c i ts Wout D cls d σ H :=
  ⟨true, h, fun _ => q, fun z => nomatch z⟩
def dTry (K : Frag) (c : Str) (i : Nat) (tb : WX → TS) (ts : Addr → Value → Option Addr → TS) (Wout : WX) : TS := fun D σ H => tb (wAs K (.ref (He.ga K c)) i ts Wout D) D σ H
theorem ps_try {X : Cx} {c n : Str} {i : Nat} {body suite : List Stmt} {b₀ : Stmt} {np pos pos' : Pos} {tb : WX → TS} {ts : Addr → Value → Option Addr → TS} {Wout : WX} (hN : X.N.Nodup) (gc : X.mg c = some (.ref (He.ga X.K c))) (tk : Takes X Wout)
    (hb : ∀ (W : WX) (pn : List (Addr × Obj)) (xe : Value → Shared → Prop), Takes (X.tr pn xe) W → PassesOwn (model X.prog X.w) X.A X.env xe → PSs (X.tr pn xe) body (tb W))
    (hsu : ∀ (a : Addr) (oe : Obj) (cls : Value) (d : Option Addr) (pn : List (Addr × Obj)), Zc cls d oe → (∃ vs, oe.data = .fields vs) → PSs (X.suite a ((a, oe) :: pn)) (b₀ :: suite) (ts a cls d))
    (hs : X.stack = X.env :: X.outer := by rfl) (hf : X.env.frame = some X.env.locals := by rfl) (hi : X.N[i]? = some n := by rfl) (hln : X.env.kindOf n = some .local := by rfl) (hg : Gl X c := by rfl) (hdb : (c == ("__debug__" : Str)) = false := by decide) :
    PS X (.Try body [.ExceptHandler (some (.Name c np)) (some n) (b₀ :: suite) pos'] [] [] pos) (dTry X.K c i tb ts Wout) := ps_try_as hs hf hN hi hln ⟨hg, hdb, .inl gc⟩ tk hb hsu
/-! ### defaults -/
def EmpT (K : Frag) (v : V) : Prop := ∃ a, v = .ref a ∧ ∀ H, SqT K H a []
theorem empB_ok {K : Frag} {v : V} (h : empB K v = true) : EmpT K v := by
  cases v with
  | ref a =>
    refine ⟨a, rfl, fun H => ?_⟩
    have h : empA K a = true := h
    unfold empA at h
    split at h
    · rename_i c od its n osl q
      obtain ⟨h1, h2⟩ := He.ba h
      have e : its = #[] := of_decide_eq_true h2
      subst e
      exact .inr ⟨_, #[], n, q, congrArg Value.type (of_decide_eq_true h1), rfl, by simp, .nil⟩
    · cases h
  | _ => cases h
def spD (sp : Sp) (dvs : List V) : Sp := fun vs H Q E => sp (vs ++ dvs) H Q E
theorem mk_fnD {P : Program} {w : World} {K : Frag} {mg : Str → Option Value} {base : Heap} {x qual : Str} {params : Arguments} {body : List Stmt} {scope : Scope} {f : Addr} {fd : FuncData} {N ps : List Str} {k : Nat} {sp : Sp} {dvs ex : List V} {kws : List (Str × V)} (F : FunD K x qual params body scope dvs kws f fd) (S : FnScope N ps scope)
    (len : ∀ vs H Q E, sp vs H Q E → vs.length = ps.length) (hb : ∃ ds, Vals ex ds ∧ Binds K fd ps ds) {t : XK → TS}
    (hbody : ∀ (cdv : Value) (A : Around) (outer : List Env) (s : Shared) (H : Hp) (E : XK), Room k (A.deeper (envOfC qual scope s.heap.objs.size f cdv)) →
      PSs (cxD P w K mg base N qual scope f cdv A outer s H E) body (t E))
    (pure : ∀ vs H Q E, sp vs H Q E → t E { nx := fun _ H' => Q .non H', rt := Q } (start N vs) H) : FR P w K mg base (k + 1) f (spD sp ex) := by
  obtain ⟨ds, hv, hb⟩ := hb
  exact (FunD.ok (P := P) (w := w) (mg := mg) (base := base) (CX := L2.CX P w) (sp := sp) F S len fun cdv A outer s H vs Q E hr h => ⟨t E, hbody cdv A outer s H E hr, pure vs H Q E h⟩).raw hb hv
theorem spD_nil {P : Program} {w : World} {K : Frag} {mg : Str → Option Value} {base : Heap} {f : Addr} {k : Nat} {sp : Sp} (F : FR P w K mg base k f (spD sp [])) : FR P w K mg base k f sp :=
  FnR.imp F fun vs H Q E h => by show sp (vs ++ []) H Q E; rw [List.append_nil]; exact h
/-! ### functions behind wrappers -/
theorem propB_ok {K : Frag} {c f : Str} (h : propB c f K = true) : PropF K c f (uA K c f) := by
  obtain ⟨h1, h⟩ := He.ba h
  obtain ⟨h2, h⟩ := He.ba h
  obtain ⟨h3, h4⟩ := He.ba h
  refine ⟨He.eqO_ok h1, He.eqO_ok h2, of_decide_eq_true h3, ?_⟩
  split at h4
  · rename_i g r e
    rw [of_decide_eq_true h4] at e
    exact ⟨r, e⟩
  · cases h4
/-! ### defs by their addresses -/
theorem DfX.funD {K : Frag} {d : DfX} (hclo : d.clo = []) (e : fnX K (d.ad K) = d.val) (c : d.ok K = true) : ∃ fd, FunD K d.name d.qual d.params d.body d.scope (d.dvs K) (d.kws K) (d.ad K) fd := by
  obtain ⟨kp, c2⟩ := He.ba c
  unfold fnX at e
  split at e
  · rename_i oc od fd osl q
    rw [q] at c2
    obtain ⟨k1, k2⟩ := He.ba c2
    obtain ⟨k3, k4⟩ := He.ba k2
    obtain ⟨n1, n2, n3, n4, n5, n6, n7, n8, n9, n10, n11, n12, n13, n14, n15⟩ := fd
    unfold DfX.val at e
    rw [hclo] at e
    simp only [Option.some.injEq, Prod.mk.injEq, List.map_nil, List.map_eq_nil_iff] at e
    obtain ⟨h1, h2, h3, h4, h5, h6, h7, h8⟩ := e
    subst h1 h2 h3 h4 h5 h6 h7 h8
    exact ⟨_, ⟨oc, od, n8, n9, n10, n11, n12, n13, n14, osl, rfl, q, k1, He.dflB_ok k3, He.kwdB_ok k4⟩, kp⟩
  · cases e
/-! ### the hook -/
section
variable {fa : List He.Fa} {fx : List (Frag → Bool)} {fn : List DfX} {K : Frag}
theorem SaysX.fst (c : SaysX fa fx fn K) : (fa.all fun f => f.ok K) = true ∧ (fx.all fun f => f K) = true ∧ (fn.all fun d => d.ok K) = true := by
  have z : ((fa.all fun f => f.ok K) && ((fx.all fun f => f K) && fn.all fun d => d.ok K)) = true := congrArg (fun z : AlX => z.1) c
  obtain ⟨a, b⟩ := He.ba z
  exact ⟨a, He.ba b⟩
theorem SaysX.fact (c : SaysX fa fx fn K) (i : Nat) {f : He.Fa} (h : fa[i]? = some f := by rfl) : f.ok K = true := List.all_eq_true.mp c.fst.1 f (List.mem_of_getElem? h)
theorem SaysX.more (c : SaysX fa fx fn K) (i : Nat) {f : Frag → Bool} (h : fx[i]? = some f := by rfl) : f K = true := List.all_eq_true.mp c.fst.2.1 f (List.mem_of_getElem? h)
theorem SaysX.fnv (c : SaysX fa fx fn K) (i : Nat) {d : DfX} (h : fn[i]? = some d := by rfl) : fnX K (d.ad K) = d.val := by
  have e : fn.map (fun d => fnX K (d.ad K)) = fn.map DfX.val := congrArg (fun z : AlX => z.2) c
  have e2 : (fn.map fun d => fnX K (d.ad K))[i]? = (fn.map DfX.val)[i]? := by rw [e]
  rw [List.getElem?_map, List.getElem?_map, h] at e2
  exact Option.some.inj e2
theorem SaysX.def_ (c : SaysX fa fx fn K) (i : Nat) {d : DfX} (h : fn[i]? = some d := by rfl) (hclo : d.clo = [] := by rfl) : ∃ fd, FunD K d.name d.qual d.params d.body d.scope (d.dvs K) (d.kws K) (d.ad K) fd := by
  have e : fn.map (fun d => fnX K (d.ad K)) = fn.map DfX.val := congrArg (fun z : AlX => z.2) c
  have e2 : (fn.map fun d => fnX K (d.ad K))[i]? = (fn.map DfX.val)[i]? := by rw [e]
  rw [List.getElem?_map, List.getElem?_map, h] at e2
  exact DfX.funD hclo (Option.some.inj e2) (List.all_eq_true.mp c.fst.2.2 d (List.mem_of_getElem? h))
end
end S
namespace S
open PySem PySem.Spec PyProof.Rows L2
/-! ### bool(x): by its truth -/
section
variable {X : Cx} {k : Nat} {g : Addr} {sp : Sp} {E : XK} {c m : Str} {ups : List Str} {tys : List String}
/-- the class's own def, called for an operator -/
theorem run_op {A : Around} {pins : List (Addr × Obj)} {σ : L2.St} {H : Hp} {s : Shared} {Q : VK} {us : List Value} {vs : List V} (F : FnR X.prog X.w X.K X.mg X.base (L2.CX X.prog X.w) k g sp) (hr : Room k A) (e0 : Env0 X.prog X.w X.K X.mg X.base A X.stack s H) (hx : ∀ σ, PassesAt (L2.CX X.prog X.w) X σ E)
    (I : Inv X pins σ H s) (r : Vals vs us) (h : sp vs H Q E) : wpAny (model X.prog X.w) A (call (.ref g) us) (EP X pins σ Q) X.xe s := by
  refine wpAny_call (codeAny_mono (F A X.stack s H us vs Q E hr e0 r h) fun r s' hq => ?_)
  cases r with
  | error e => exact hx σ pins H s e s' I hq
  | ok fl =>
    cases fl with
    | ret u => exact I.after hq
    | next => exact False.elim hq
    | brk => exact False.elim hq
    | cont => exact False.elim hq
theorem mf_first (mf : MF X.K c ups tys) : PySem.W.selfFirst X.K (He.ga X.K c) = true := by
  obtain ⟨cd, e, _, hm⟩ := mf.cd
  unfold PySem.W.selfFirst
  rw [e, Option.any_some, hm]
  simp
/-- x op y, both instances of c, its own def; r: of other values -/
def oOwn (K : Frag) (c : Str) (sp : Sp) (E : XK) (r : R2) : R2 := fun x y H Q => match x, y with
  | .ref a, .ref b => IsO K H c a (IsO K H c b (sp [.ref a, .ref b] H Q E))
  | x, y => r x y H Q
theorem op_ownB {op : Operator} {r : R2} (mf : MF X.K c ups tys) (hm : Meth X.K (He.ga X.K c) (PySem.dunder op.info.2) g) (F : FnR X.prog X.w X.K X.mg X.base (L2.CX X.prog X.w) k g sp) (hr : Room k X.A) (hx : ∀ σ, PassesAt (L2.CX X.prog X.w) X σ E) (h0 : OpR X (binaryOp op) r) : OpR X (binaryOp op) (oOwn X.K c sp E r) := by
  intro pins s σ H x y v u Q I rx ry q
  have own : ∀ a b, x = .ref a → y = .ref b → IsO X.K H c a (IsO X.K H c b (sp [.ref a, .ref b] H Q E)) → wpAny (model X.prog X.w) X.A (binaryOp op v u) (EP X pins σ Q) X.xe s := by
    intro a b ex ey q
    subst ex ey
    cases rx
    cases ry
    obtain ⟨⟨dx, vs, hsl⟩, ⟨⟨dy, ws, hsl2⟩, q⟩⟩ := q
    obtain ⟨sl, od, _, J, _⟩ := SlX.slt_inst I hsl
    obtain ⟨sl', od', _, J', _⟩ := SlX.slt_inst I hsl2
    obtain ⟨m, hF⟩ := I.fr
    refine PySem.W.binop_K hF I.ok.mod.kin J J'.type (mf_first mf) hm.at_ hm.fn ?_
    refine wpAny_mono (run_op (us := [.ref a, .ref b]) (vs := [.ref a, .ref b]) F hr I.env0 hx I (.cons rfl (.cons rfl .nil)) q) (fun w s' z => ?_) fun _ _ x => x
    obtain ⟨z', H', I', rz, qz⟩ := z
    exact SlX.cmpback rz ⟨z', H', I', rz, qz⟩
  cases x <;> cases y <;> first | exact own _ _ rfl rfl q | exact h0 pins s σ H _ _ v u Q I rx ry q
/-- op x, an instance of c -/
def uOwn (K : Frag) (c : Str) (sp : Sp) (E : XK) : V → Hp → VK → Prop := fun x H Q => match x with
  | .ref a => IsO K H c a (sp [.ref a] H Q E)
  | _ => False
/-- x == y: of instances of c by its own def; of data -/
structure EqOr (K : Frag) (c : Str) (H : Hp) (a b : Addr) (P : Prop) (k : Bool → Prop) : Prop where
  ex : (IsO K H c a (IsO K H c b P)) ∨ EqD K H (.ref a) (.ref b) k
theorem EqOr.own {K : Frag} {c : Str} {H : Hp} {a b dx dy : Addr} {P : Prop} {k : Bool → Prop} {vs ws : List (Option V)} (h : SlX.Slt H a (He.ga K c) dx vs) (h2 : SlX.Slt H b (He.ga K c) dy ws) (q : P) : EqOr K c H a b P k := ⟨.inl (.of h (.of h2 q))⟩
def oEqO (K : Frag) (c : Str) (sp : Sp) (E : XK) : R2 := fun x y H Q => match x, y with
  | .ref a, .ref b => EqOr K c H a b (sp [.ref a, .ref b] H Q E) fun k => Q (.bl k) H
  | x, y => oEq K x y H Q
theorem op_eqO (hm : Meth X.K (He.ga X.K c) "__eq__" g) (F : FnR X.prog X.w X.K X.mg X.base (L2.CX X.prog X.w) k g sp) (hr : Room k X.A) (hx : ∀ σ, PassesAt (L2.CX X.prog X.w) X σ E) : OpR X (compareOp .Eq) (oEqO X.K c sp E) := by
  intro pins s σ H x y v u Q I rx ry q
  have own : ∀ a b, x = .ref a → y = .ref b → (IsO X.K H c a (IsO X.K H c b (sp [.ref a, .ref b] H Q E))) → wpAny (model X.prog X.w) X.A (compareOp .Eq v u) (EP X pins σ Q) X.xe s := by
    intro a b ex ey q1
    clear q
    subst ex ey
    cases rx
    cases ry
    obtain ⟨⟨dx, vs, hsl⟩, ⟨⟨dy, ws, hsl2⟩, q⟩⟩ := q1
    obtain ⟨sl, od, _, J, _⟩ := SlX.slt_inst I hsl
    obtain ⟨sl', od', _, J', _⟩ := SlX.slt_inst I hsl2
    obtain ⟨m, hF⟩ := I.fr
    show wpAny _ _ (richCompare .Eq (.ref a) (.ref b)) _ _ _
    refine PySem.W.cmp_K (op := .Eq) (tb := .ref (He.ga X.K c)) hr.units0 hF I.ok.mod.kin J J'.type (by unfold PySem.W.notFirst; simp) hm.at_ hm.fn ?_
    refine wpAny_mono (run_op (us := [.ref a, .ref b]) (vs := [.ref a, .ref b]) F hr I.env0 hx I (.cons rfl (.cons rfl .nil)) q) (fun w s' z => ?_) fun _ _ x => x
    obtain ⟨z', H', I', rz, qz⟩ := z
    exact SlX.cmpback rz ⟨z', H', I', rz, qz⟩
  have h0 : OpR X (compareOp .Eq) (oEq X.K) := o_eq hr.units
  cases x <;> cases y <;> first
    | (refine Or.elim (EqOr.ex q) (fun q1 => own _ _ rfl rfl q1) fun q1 => h0 pins s σ H _ _ v u Q I rx ry q1)
    | exact h0 pins s σ H _ _ v u Q I rx ry q
end
/-! ### tuples of the module -/
def TupG (K : Frag) (x : Str) (vs : List V) : Prop := ∀ H, SqT K H (He.ga K x) vs
theorem tupG_ok {K : Frag} {x : Str} {vs : List He.Dv} (h : He.tupB K x vs = true) : TupG K x (vs.map (He.Dv.v K)) := fun H => He.tupB_ok h H
end S
namespace S
open PySem PySem.Spec PyProof.Rows L2
/-! ### enumerate over a tuple -/
set_option maxHeartbeats 4000000 in
theorem meets_enum1 {v : Value} {o : Obj} {H : Heap → Prop} (B : Begins v o H) :
    Meets (Builtin.«enumerate.__new__» ⟨[.type "enumerate", v], []⟩) (fun _ R s => H s.heap ∧
      R (.ok (.ret (.ref (s.heap.push o).objs.size))) { s with heap := (s.heap.push o).push { cls := .type "enumerate", data := .fields #[.none, .bool false, .ref s.heap.objs.size, rawInt 0, .none, .none] } }) :=
  .of_wp fun prog w A R s h => by
    obtain ⟨hp, g, d, tk, os⟩ := s; obtain ⟨h1, h⟩ := h
    have hsub := sub_enumerate
    have q1 : ∀ {A' : Around} {E : Value → Shared → Prop} {Q : Value → Shared → Prop}, Q (.ref hp.objs.size) ⟨hp.push o, g, d, tk, os⟩ → wpAny (model prog w) A' (pyIter v) Q E ⟨hp, g, d, tk, os⟩ :=
      fun q => B.iter prog w _ _ ⟨hp, g, d, tk, os⟩ _ h1 q
    wp_walk using q1
    refine wpAny_stack_any fun st => wpAny_pure ?_
    split
    · rename_i c _ _ _ _ _
      cases (c == Value.type "enumerate")
      · wp_walk using q1
        exact ⟨_, rfl, h⟩
      · wp_walk using q1
        exact ⟨_, rfl, h⟩
    · wp_walk using q1
      exact ⟨_, rfl, h⟩
theorem enum_begins1 {prog : Program} {w : World} {A : Around} {E : Value → Shared → Prop} {s : Shared} {v : Value} {o : Obj} {H : Heap → Prop} {Q : Value → Shared → Prop} (B : Begins v o H) (h1 : H s.heap)
    (h : ∀ h', IsEnum h' (s.heap.objs.size + 1) s.heap.objs.size 0 .none → h'.get? s.heap.objs.size = some o → h'.objs.size = s.heap.objs.size + 2 →
      (∀ b o, s.heap.get? b = some o → h'.get? b = some o) → Q (.ref (s.heap.objs.size + 1)) { s with heap := h' }) :
    wpAny (model prog w) A (call (.type "enumerate") [v]) Q E s := by
  refine callType_new F.called_enumerate (by decide) (F.typeCall_enumerate_1 _) (F.newCall_enumerate_1 _) (fun obj => F.args_object_init_2 obj _) F.entry_enumerate_new
    (meets_enum1 B) ⟨h1, ?_⟩
  have hz : (s.heap.push o).objs.size = s.heap.objs.size + 1 := Heap.size_push ..
  show _ ∧ _
  rw [hz]
  have he : IsEnum ((s.heap.push o).push { cls := .type "enumerate", data := .fields #[.none, .bool false, .ref s.heap.objs.size, rawInt 0, .none, .none] }) (s.heap.objs.size + 1) s.heap.objs.size 0 .none := by
    have := Heap.get?_push_size (s.heap.push o) (o := { cls := .type "enumerate", data := .fields #[.none, .bool false, .ref s.heap.objs.size, rawInt 0, .none, .none] }) rfl
    rw [hz] at this; exact this
  refine ⟨⟨_, he, rfl⟩, h _ he (Heap.get?_push_of_some _ (Heap.get?_push_size _ B.free)) (by rw [Heap.size_push, hz]) fun b o x => Heap.get?_push_of_some _ (Heap.get?_push_of_some _ x)⟩
/-- the tuple at a, each item in a new pair -/
def Iet (K : Frag) (a : Addr) : It :=
  ⟨fun i H => ∃ (xs : List V) (x : V), SqT K H a xs ∧ xs[i]? = some x, fun i H v H' => ∃ T x, v = .ref T ∧ H T = none ∧ H' = upd H T (.tup [.int (i : Nat), x]) ∧ ∀ xs, SqT K H a xs → xs[i]? = some x, fun i H => ∃ xs : List V, SqT K H a xs ∧ xs.length ≤ i⟩
theorem enum_endT {prog : Program} {w : World} {A : Around} {E : Value → Shared → Prop} {s : Shared} {e it l : Addr} {i : Nat} {c : Int} {items : Array Value} {old : Value} {Q : Option Value → Shared → Prop} (hh : A.handled = none)
    (he : IsEnum s.heap e it c old) (hit : s.heap.IsTupleIter it l i) (hl : s.heap.IsTuple l items) (hx : items[i]? = none)
    (hQ : ∀ h', Heap.ExtBut it s.heap h' → Q none { s with heap := h' }) : wpAny (model prog w) A (pyNext (.ref e)) Q E s := by
  have hT : s.TypeIs (.ref e) "enumerate" := ⟨_, he, rfl⟩
  unfold pyNext
  refine wpAny_bind (wpAny_attempt (wpAny_callSpecial?_slot (name := Str.ofString "__next__") hT F.slot_enumerate_next
    (wpAny_call_entry F.slot_enumerate_next hT F.entry_enumerate_next ?_ (F.args_enumerate_next_1 _))))
  show wpAny _ _ (field (.ref e) 2 >>= _) _ _ _
  refine wpAny_bind (wpAny_field he rfl (x := .ref it) rfl ?_)
  refine wpAny_bind (wpAny_nextOf_tuple_end hh hit hl hx fun h' x he' hx' => ?_)
  obtain ⟨o, ho, hc⟩ := hx'
  refine wpAny_bind (wpAny_isInstance (T := "StopIteration") (b := true) ⟨o, ho, hc⟩ isSubtype_stop ?_)
  exact wpAny_pure (hQ _ he')
theorem turn_enumT {P : Program} {w : World} {K : Frag} {elts : List Expr} {kk : Nat} {tpos : Pos} (a e it : Addr) :
    Turn P w K (.Tuple elts kk tpos) (Iet K a) [e, it] e (fun i h => (∃ old, IsEnum h e it ((i : Nat) : Int) old) ∧ h.IsTupleIter it a i ∧ e ≠ it) where
  mem := by simp
  obj := fun i h st b hb => by
    obtain ⟨⟨old, he⟩, ⟨o, ho, hc, hd⟩, _⟩ := st
    have e' : b = e ∨ b = it := by simpa using hb
    rcases e' with z | z
    · rw [z]; exact ⟨_, he, fun v q => nomatch q⟩
    · rw [z]; exact ⟨o, ho, fun v q => by rw [hd] at q; cases q⟩
  keep := fun i h h' st k => let ⟨⟨old, he⟩, hi, hne⟩ := st; ⟨⟨old, k e (by simp) _ he⟩, hi.at fun o q => k it (by simp) o q, hne⟩
  item := by
    intro X hP hw hK hc i pins s σ H E I hf st hg
    subst hP hw hK
    obtain ⟨⟨old, he⟩, hit, hne⟩ := st
    obtain ⟨xs, x, hq, hx⟩ := hg
    obtain ⟨its, rv, p, hz⟩ := I.tuple hq
    have ht : s.heap.IsTuple a its.toArray := p
    obtain ⟨u, hu, ru⟩ := rv.get hx
    have hel : e < s.heap.objs.size := Heap.lt_size he
    have hil : it < s.heap.objs.size := by obtain ⟨_, q, _⟩ := hit; exact Heap.lt_size q
    have hat : a ≠ it := by
      rintro rfl
      obtain ⟨o1, e1, c1, _⟩ := hit
      obtain ⟨o2, e2, c2, _⟩ := ht
      rw [e1] at e2; cases e2
      rw [c1] at c2; exact absurd c2 (by simp)
    have hae : e ≠ a := by
      rintro rfl
      obtain ⟨o2, e2, c2, _⟩ := ht
      rw [show s.heap.get? e = _ from he] at e2; cases e2
      exact absurd c2 (by simp)
    have D := Draws.tuple (prog := X.prog) (w := X.w) (A := X.A.in1) (show X.A.in1.handled = none from I.ok.hd hc) it a hat its.toArray
    have hlt : i < its.toArray.size := by
      have := rv.length
      obtain ⟨h1, _⟩ := List.getElem?_eq_some_iff.mp hx
      simp; omega
    refine wpAny_pyNext_enum_itemC D he ⟨hit, ht⟩ hlt hne (by simp; exact ⟨hne, hae⟩) fun u2 h' tk hP ho hst hT hsz hk => ?_
    have eu : u2 = u := by
      have h1 : its.toArray[i]? = some u2 := hP
      rw [List.getElem?_toArray] at h1
      rw [hu] at h1
      exact (Option.some.inj h1).symm
    subst eu
    refine ⟨_, rfl, wpAny_letOwnedTupleGo_enum (s := { s with heap := h', toks := tk + 1 }) ho fun h'' he' sb => ?_⟩
    have hT2 : h''.get? s.heap.objs.size = some { cls := .type "tuple", data := .seq #[.int i tk, u2] } := (sb.2 _ (Nat.ne_of_gt hel)).trans hT
    have new : ObjOk X.prog X.w (upd H s.heap.objs.size (.tup [.int (i : Nat), x])) h'' s.heap.objs.size (.tup [.int (i : Nat), x]) :=
      ⟨by show 2 ≤ sizeLine; decide, [.int i tk, u2], .cons ⟨_, rfl⟩ (.cons ru .nil), ⟨_, hT2, rfl, _, rfl⟩⟩
    have I1 : Inv X pins σ (upd H s.heap.objs.size (.tup [.int (i : Nat), x])) { s with heap := h'', toks := tk + 1 } :=
      I.turnedNew (ch := [e, it]) (fun b ob hb q => (sb.2 b (fun z => hb (by simp [z]))).trans (hk b ob (fun z => hb (by simp [z])) (fun z => hb (by simp [z])) q)) hf (Nat.le_refl _) new
    refine ⟨.ref s.heap.objs.size, _, I1, rfl, ⟨_, x, rfl, I.hok.fresh (Nat.le_refl _), rfl, fun ys hy => by rw [I.tuple_inj hy hq]; exact hx⟩, ⟨⟨u2, ?_⟩, hst.1.at fun o q => (sb.2 it (Ne.symm hne)).trans q, hne⟩, fun b hb => ?_⟩
    · have e1 : ((i + 1 : Nat) : Int) = (i : Int) + 1 := by omega
      rw [e1]; exact he'
    · have hb' : b < s.heap.objs.size := by
        have e' : b = e ∨ b = it := by simpa using hb
        rcases e' with z | z
        · rw [z]; exact hel
        · rw [z]; exact hil
      rw [upd_ne (Nat.ne_of_lt hb')]
      exact (hf b hb).1
  done := by
    intro X hP hw hK hc i pins s σ H E I hf st hg
    subst hP hw hK
    obtain ⟨⟨old, he⟩, hit, hne⟩ := st
    obtain ⟨xs, hq, hx⟩ := hg
    obtain ⟨its, rv, p, hz⟩ := I.tuple hq
    have ht : s.heap.IsTuple a its.toArray := p
    obtain ⟨f0, f1, f2, f3, f4, f5⟩ := hf it (by simp)
    have hl := rv.length
    exact enum_endT (I.ok.hd hc) he hit ht (by simp; omega) fun h' eb => ⟨rfl, I.turned (t' := s.toks) (fun b o hb q => eb b o hb q) f0 f1 f3 f4 f5⟩
  self := fun A i s Q E st h => let ⟨⟨_, he⟩, _⟩ := st; wpAny_pyIter_enum he h
/-- over the tuple at p -/
structure EnW (K : Frag) (H : Hp) (p : Addr) (R : It → Hp → Prop) : Prop where
  ex : ∃ xs, SqT K H p xs
  go : R (Iet K p) H
def iEn (K : Frag) (ta : TE) : TI := fun σ H R => ta σ H fun x H1 => match x with
  | .ref p => EnW K H1 p R
  | _ => False
theorem pi_en {X : Cx} {e : Expr} {ta : TE} {p pos tpos : Pos} {elts : List Expr} {kk : Nat} (hm : X.mg "enumerate" = none) (ha : PE X e ta) (hg : Gl X "enumerate" := by rfl) (hs : starEach [e] X.env = [(false, eval e X.env)] := by rfl) :
    PI X (.Tuple elts kk tpos) (.Call (.Name "enumerate" p) [e] [] pos) (iEn X.K ta) := by
  refine ⟨fun pins s σ H R I h => ?_⟩
  have hA : PA X [e] (tCons ta tNil) := pa_cons ha pa_nil hs
  refine Call_ (ld_blt I hg hm boot_enumerate (PyProof.Rows.callWith_type1 (thn (hA.run pos pins s σ H (fun vs H1 => ∃ a xs, vs = [V.ref a] ∧ SqT X.K H1 a xs ∧ R (Iet X.K a) H1) I ?hq) fun us s1 ⟨vs, H1, I1, r1, q1⟩ => ?_) hs rfl))
  case hq =>
    show ta σ H fun x H1 => _
    have key : ∀ (x : V) (H1 : Hp), (match x with | .ref p => EnW X.K H1 p R | _ => False) → (tNil σ H1 fun xs H2 => ∃ a ys, x :: xs = [V.ref a] ∧ SqT X.K H2 a ys ∧ R (Iet X.K a) H2) := by
      intro x H1 q
      cases x <;> try exact q.elim
      obtain ⟨⟨xs, hx⟩, q⟩ := q
      exact ⟨_, xs, rfl, hx, q⟩
    have e : (fun (x : V) (H1 : Hp) => (match x with | .ref p => EnW X.K H1 p R | _ => False)) = fun x H1 => (tNil σ H1 fun xs H2 => ∃ a ys, x :: xs = [V.ref a] ∧ SqT X.K H2 a ys ∧ R (Iet X.K a) H2) := by
      funext x H1
      refine propext ⟨key x H1, fun ⟨a, ys, e, hy, q⟩ => ?_⟩
      have e2 : x = .ref a := (List.cons.inj e).1
      subst e2
      exact ⟨⟨ys, hy⟩, q⟩
    rw [← e]
    exact h
  obtain ⟨a, xs, ex, hq, q⟩ := q1
  subst ex
  cases r1 with
  | cons r rr =>
    cases rr
    cases r
    obtain ⟨its, rv, p', hz⟩ := I1.tuple hq
    refine enum_begins1 (begins_tuple a its.toArray) (show s1.heap.IsTuple a its.toArray from p') fun h' he hit hsz hk => wpAny_pyIter_enum he ?_
    have I2 : Inv X pins σ H1 { s1 with heap := h' } := I1.kept (t' := s1.toks) hk
    refine ⟨s1.heap.objs.size + 1, [s1.heap.objs.size + 1, s1.heap.objs.size], _, _, H1, rfl, I2, turn_enumT a (s1.heap.objs.size + 1) s1.heap.objs.size, ⟨⟨.none, he⟩, ⟨_, hit, rfl, rfl⟩, Nat.succ_ne_self _⟩, fun b hb => ?_, q⟩
    have e' : b = s1.heap.objs.size + 1 ∨ b = s1.heap.objs.size := by simpa using hb
    have hle : s1.heap.objs.size ≤ b := by
      rcases e' with z | z
      · rw [z]; exact Nat.le_add_right _ _
      · rw [z]; exact Nat.le_refl _
    exact I1.fpOk hle (I1.hok.fresh hle)
/-- a loop over them: each pair is new -/
theorem for_en {K : Frag} {p : Addr} {xs : List V} {g : TG} {tb : TS} {D : Ends} {σ : L2.St} {H : Hp} (Pv : Nat → L2.St → Hp → Prop) (hx : SqT K H p xs) (h0 : Pv 0 σ H) (hl : ∀ i σ H', i ≤ xs.length → Pv i σ H' → SqT K H' p xs)
    (hs : ∀ (i : Nat) x σ H, xs[i]? = some x → Pv i σ H → ∀ T, H T = none → g (.ref T) σ (upd H T (.tup [.int (i : Int), x])) fun σ2 H2 => tb { D with nx := Pv (i + 1), ct := Pv (i + 1), bk := D.nx } σ2 H2) (hd : ∀ σ H, Pv xs.length σ H → D.nx σ H) :
    EnW K H p (LoopR D g tb σ) := by
  refine ⟨⟨xs, hx⟩, fun i m σ H => i ≤ xs.length ∧ m = xs.length - i ∧ Pv i σ H, ⟨_, Nat.zero_le _, rfl, h0⟩, ?_⟩
  rintro i m σ H ⟨hi, rfl, hp⟩
  have hq := hl i σ H hi hp
  by_cases hlt : i < xs.length
  · have hxi : xs[i]? = some xs[i] := List.getElem?_eq_getElem hlt
    refine .inr ⟨⟨xs, _, hq, hxi⟩, Pv (i + 1), fun σ' H' q => ⟨_, by omega, by omega, rfl, q⟩, ?_⟩
    rintro v H' ⟨T, y, rfl, hT, rfl, hy⟩
    have e := hy xs hq
    exact hs i y σ H e hp T hT
  · have e : i = xs.length := by omega
    subst e
    exact .inl ⟨⟨xs, hq, Nat.le_refl _⟩, hd _ _ hp⟩
def oNin (K : Frag) : R2 := fun x y H Q => match y with
  | .ref p => Rd K H p fun xs => Need (flatV x = true ∧ xs.all flatV = true) (Q (.bl (!inV x xs)) H)
  | _ => False
theorem o_nin {X : Cx} : OpR X (compareOp .NotIn) (oNin X.K) := OpR.of op_notIn_seq fun x y H Q q => by
  cases y <;> try exact q.elim
  obtain ⟨⟨xs, hx, ⟨⟨f1, f2⟩, q⟩⟩⟩ := q
  exact ⟨_, xs, rfl, hx, f1, f2, q⟩
theorem inV_int (i : Int) (ns : List Int) : inV (.int i) (ns.map V.int) = decide (i ∈ ns) := by
  induction ns with
  | nil => rfl
  | cons x r ih =>
    show (eqV (.int x) (.int i) || inV (.int i) (r.map V.int)) = _
    rw [ih]
    have e : eqV (.int x) (.int i) = decide (i = x) := by
      show (x == i) = _
      by_cases h : i = x
      · subst h; simp
      · rw [decide_eq_false h, beq_eq_false_iff_ne]; exact fun z => h z.symm
    rw [e]
    by_cases h : i = x <;> by_cases h2 : i ∈ r <;> simp [h, h2]
theorem flat_ints (ns : List Int) : (ns.map V.int).all flatV = true := by
  induction ns with
  | nil => rfl
  | cons x r ih => rw [List.map_cons, List.all_cons, ih]; rfl
/-- sorted(a list of numbers) -/
structure Srt (K : Frag) (H : Hp) (p : Addr) (Q : V → Hp → Prop) : Prop where
  ex : ∃ ns : List Int, SqL K H p (ns.map V.int) ∧ ∀ (ns' : List Int) (q : Addr), ns'.Perm ns → ns'.Pairwise (· ≤ ·) → H q = none → Q (.ref q) (upd H q (.lst (ns'.map V.int)))
def cSorted (K : Frag) : List V → Hp → VK → Prop := fun xs H Q => match xs with
  | [.ref p] => Srt K H p Q
  | _ => False
theorem c_sorted {X : Cx} : CallR X (.builtin "sorted") (cSorted X.K) := CallR.of cr_sortedI fun xs H Q q => by
  match xs, q with
  | [.ref p], ⟨⟨ns, h1, h2⟩⟩ => exact ⟨p, ns, rfl, h1, h2⟩
end S
namespace S
open PySem PySem.Spec PyProof.Rows L2
/-! ### number * number, list * number -/
def oMulA : R2 := fun x y H Q => match x, y with
  | .int i, .int j => Need (CMul i j) (Q (.int (i * j)) H)
  | .ref l, .int k => Ls H l fun xs => Need (-(2 ^ 63) ≤ k ∧ k < 2 ^ 63 ∧ xs.length * k.toNat ≤ sizeLine) (NewL H (List.replicate k.toNat xs).flatten Q)
  | _, _ => False
theorem o_mulA {X : Cx} : OpR X (binaryOp .Mult) oMulA := OpR.of (op_mul.or op_rep) fun x y H Q q => by
  cases x <;> cases y <;> try exact q.elim
  · exact .inl ⟨_, _, rfl, rfl, q.c, q.q⟩
  · obtain ⟨⟨xs, h, ⟨⟨h1, h2, h3⟩, ⟨q⟩⟩⟩⟩ := q
    exact .inr ⟨_, _, xs, rfl, rfl, h, h1, h2, h3, q⟩
/-! ### staticmethods -/
structure StF (K : Frag) (c m : Str) : Prop where
  rd : PySem.W.readsIn K (He.ga K c) (.type "type") = true
  ga : PySem.W.specialIn K (.ref (He.ga K c)) "__getattribute__" = some (some (.builtin "type.__getattribute__"))
  at_ : PySem.W.findCls K (.ref (He.ga K c)) (.type "type") m = some (.get (.builtin "staticmethod.__get__") (.ref (He.ma K (He.ga K c) m)) .none (.ref (He.ga K c)))
  rc : ∃ rest, PySem.W.recIn K (He.ma K (He.ga K c) m) "staticmethod" = some (.ref (uA K c m) :: rest)
  kp : PySem.W.keepIn K (.ref (uA K c m)) = true
theorem statB_ok {K : Frag} {c m : Str} (h : statB c m K = true) : StF K c m := by
  obtain ⟨h1, h⟩ := He.ba h
  obtain ⟨h2, h⟩ := He.ba h
  obtain ⟨h3, h⟩ := He.ba h
  obtain ⟨h4, h5⟩ := He.ba h
  refine ⟨h1, He.eqO_ok h2, ?_, ?_, h5⟩
  · clear h4
    split at h3
    · rename_i g p D e
      obtain ⟨k1, k⟩ := He.ba h3
      obtain ⟨k2, k3⟩ := He.ba k
      rw [e, of_decide_eq_true k1, of_decide_eq_true k2, of_decide_eq_true k3]
    · cases h3
  · clear h3
    split at h4
    · rename_i g r e
      rw [of_decide_eq_true h4] at e
      exact ⟨r, e⟩
    · cases h4
section
variable {X : Cx} {k : Nat} {sp : Sp} {E : L2.St → XK} {c m : Str} {pos apos : Pos} {o e : Expr} {es : List Expr} {t : TA}
theorem getstat_ok {pins : List (Addr × Obj)} {σ : L2.St} {H : Hp} {s : Shared} {A : Around} {E : Value → Shared → Prop} {pl : Sem Bool} {Q : Value × List Value → Shared → Prop} (I : Inv X pins σ H s) (r : StF X.K c m) (h : ∀ s', Inv X pins σ H s' → Q (.ref (uA X.K c m), []) s') :
    wpAny (model X.prog X.w) A (getMethod (.ref (He.ga X.K c)) m pl) Q E s := by
  obtain ⟨rest, hp⟩ := r.rc
  refine PySem.W.method_cls I.kIn r.ga (PySem.W.cls_bind I.kIn r.rd r.at_ ?_)
  refine wpAny_call (PySem.W.sm_get (s := { s with toks := s.toks + 1 }) I.kIn hp (PySem.W.handed_on rfl ?_))
  exact h _ (I.tok _)
/-- C.m(e, ..), m a staticmethod -/
def dStat (K : Frag) (sp : Sp) (E : L2.St → XK) (t : TA) : TE := fun σ H Q => t σ H fun vs H1 => sp vs H1 Q (E σ)
theorem pe_stat {pl : Sem Bool} (r : StF X.K c m) (F : FnR X.prog X.w X.K X.mg X.base (L2.CX X.prog X.w) k (uA X.K c m) sp) (hr : Room k X.A) (hx : ∀ σ, PassesAt (L2.CX X.prog X.w) X σ (E σ)) (he : PE X o (tC (.ref (He.ga X.K c)))) (ha : PA X (e :: es) t)
    (hst : starEach (e :: es) X.env = (false, eval e X.env) :: starEach es X.env := by rfl) (hpl : (backTo pos (starEach es X.env)).any (·.1) = false := by rfl)
    (ht : eval (.Call (.Attribute o m apos) (e :: es) [] pos) X.env = (do
      let ov ← eval o X.env
      standAt apos.atName
      let (f, first) ← holding [ov] (getMethod ov m pl)
      callWith pos f first (backTo pos (starEach (e :: es) X.env)) (backToKw pos (keywordEach [] X.env))) := by rfl) :
    PE X (.Call (.Attribute o m apos) (e :: es) [] pos) (dStat X.K sp E t) := by
  refine ⟨fun pins s σ H Q I h => ?_⟩
  refine PySem.W.methodCall_KW (pl := pl) (thn (he.run pins s σ H (fun x H1 => x = .ref (He.ga X.K c) ∧ t σ H1 fun vs H2 => sp vs H2 Q (E σ)) I ⟨rfl, h⟩) fun u s1 ⟨x, H1, I1, rx, ex, q⟩ => ?_) ht
  subst ex
  cases rx
  refine getstat_ok I1 r fun s2 I2 => ?_
  refine PySem.W.callWith_K (first := []) (h₀ := X.base) I2.ok.mod.kin r.kp (thn (ha.run pos pins s2 σ H1 _ I2 q) fun us s3 ⟨ws, H2, I3, r3, q2⟩ => ⟨I3.kIn, ?_⟩) hst hpl
  exact run_R F hr (hx σ) I3 r3 q2
end
end S
namespace S
open PySem PySem.Spec PyProof.Rows L2
/-! ### exceptions with an own __init__ over super().__init__ -/
theorem oexB_ok {K : Frag} {c : Str} (h : oexB c K = true) : OexC K (He.ga K c) := by
  obtain ⟨h1, h⟩ := He.ba h
  obtain ⟨h2, h⟩ := He.ba h
  obtain ⟨h3, h⟩ := He.ba h
  obtain ⟨h4, h5⟩ := He.ba h
  refine ⟨?_, He.eqO_ok h2, of_decide_eq_true h3, of_decide_eq_true h4, h5⟩
  clear h2 h3 h4 h5 h
  split at h1
  · rename_i dd cd sl ho
    split at h1
    · rename_i C' bm k0 k1 k2 k3 n k5 hm hs
      simp only [Bool.and_eq_true, beq_iff_eq, Bool.not_eq_true'] at h1
      obtain ⟨⟨⟨⟨e1, rfl⟩, hdel⟩, hd⟩, ht⟩ := h1
      obtain ⟨nm, bs, mro, ns, qn, hdc, sn, sub, ab, col, del⟩ := cd
      dsimp only at hm hdel hd
      subst hm hdel hd
      have hsl : sl = #[k0, k1, k2, k3, some (.builtin "ValueError.__new__"), k5] := by
        obtain ⟨l⟩ := sl
        simp only at hs
        rw [hs]
      subst hsl
      exact ⟨nm, qn, ns, bs, bm, sn, sub, ab, col, dd, k0, k1, k2, k3, k5, by rw [ho, e1], ht⟩
    · cases h1
  · cases h1
/-- what the written part says of such a class: fI its __init__ -/
structure XiF (P : Program) (K : Frag) (c fld nm qual : Str) (params : Arguments) (body : List Stmt) (scope : Scope) (fI : Addr) (fd : FuncData) : Prop where
  fn : ∃ oc od osl kV doc pm an cda ct cc, fd = PySem.W.ksFn nm qual params body scope .none kV doc pm an (.ref cda) ct cc ∧ K.lookup fI = some ⟨oc, od, .func fd, osl⟩ ∧ PySem.W.codeIn K (.ref cda) qual = true ∧
    (∃ cl cld csl, K.lookup cc = some ⟨cl, cld, .cell (some (.ref (He.ga K c))), csl⟩) ∧ ∃ ccl cdd vs ccs file tf, K.lookup cda = some ⟨ccl, cdd, .fields vs, ccs⟩ ∧ vs[2]? = some (.str file tf) ∧ ((P.main.file : Str) == file) = true
  sub : PySem.W.mroIn K (He.ga K c) (.ref (He.ga K c)) = some true
  sup : PySem.W.ks_superIn K (He.ga K c) (He.ga K c) "__init__" = some (some (.builtin "ValueError.__init__"))
  ve : PySem.W.subIn K (.ref (He.ga K c)) (.type "ValueError") = some true
  st : PySem.W.nsIn K cStatics "thirdparty.any" = some none
  oex : OexC K (He.ga K c)
  no : PySem.W.findIn K (.ref (He.ga K c)) fld = some none
  ini : PySem.W.findIn K (.ref (He.ga K c)) "__init__" = some (some (.ref fI))
  tI : PySem.W.typeIn K (.ref fI) = some (.type "function")
  top : (P.main.scope.names.lookup ("super" : Str)).isSome = false
/-- the promise: the field is kept -/
def spXi (K : Frag) (c fld : Str) : Sp := fun vs H Q _ => ∃ (a : Addr) (v : V), vs = [.ref a, v] ∧ H a = some (exo a (He.ga K c) none) ∧ ∀ dx, H dx = none → dx ≠ a → Q .non (upd (upd H dx (exd dx [(fld, v)])) a (exo a (He.ga K c) (some dx)))
section
variable {P : Program} {w : World} {K : Frag} {mg : Str → Option Value} {base : Heap} {CX : CXT} {c fld nm qual par msg : Str} {params : Arguments} {body : List Stmt} {scope : Scope} {fI : Addr} {fd : FuncData} {p0 p1 p2 p3 p4 p5 p6 p7 p8 p9 : Pos} {j : Nat}
theorem xi_ok {k : Nat} {pl : Env → Sem Bool} (D : XiF P K c fld nm qual params body scope fI fd) (hms : mg "super" = none)
    (hbody : body = [.Expr (.Call (.Attribute (.Call (.Name "super" p0) [] [] p1) "__init__" p2) [.Constant (.str msg) j p3] [] p4) p5, .Assign [.Attribute (.Name "self" p6) fld p7] (.Name par p8) p9])
    (hp : ∃ ar, (params.posonlyargs ++ params.args).head? = some ar ∧ ar.arg = "self") (hk : scope.kind = .function) (hco : scope.isCoroutine = false) (hgen : scope.isGenerator = false) (hcell : ∀ x ∈ scope.names, x.2 ≠ .cell)
    (hks : scope.names.lookup ("super" : Str) = some .globalImplicit) (hkc : scope.names.lookup ("__class__" : Str) = some .free) (hka : scope.names.lookup ("self" : Str) = some .local) (hkp : scope.names.lookup par = some .local) (hne : par ≠ "self") (hpd : (par == ("__debug__" : Str)) = false)
    (hsw : ∀ env, swapsWith (.Name par p8) (some (.Attribute (.Name "self" p6) fld p7)) p9.line env = pure false) (hsw2 : ∀ env, swapsWith (.Call (.Attribute (.Call (.Name "super" p0) [] [] p1) "__init__" p2) [.Constant (.str msg) j p3] [] p4) none p5.line env = pure false)
    (hev : ∀ env, eval (.Call (.Attribute (.Call (.Name "super" p0) [] [] p1) "__init__" p2) [.Constant (.str msg) j p3] [] p4) env = (do
      let ov ← attributeBase (.Call (.Name "super" p0) [] [] p1) "__init__" env (eval (.Call (.Name "super" p0) [] [] p1) env)
      standAt p2.atName
      let (f, first) ← holding [ov] (getMethod ov "__init__" (pl env))
      callWith p4 f first (backTo p4 (starEach [.Constant (.str msg) j p3] env)) [])) :
    FnOk P w K mg base CX k fI fd ["self", par] (spXi K c fld) := by
  refine ⟨fun vs H Q E h => by obtain ⟨a, v, rfl, _⟩ := h; rfl, fun A outer s H args us vs Q E hr e0 hb rv hsp => ?_⟩
  obtain ⟨a, v, rfl, ha, q⟩ := hsp
  obtain ⟨oc, od, osl, kV, doc, pm, an, cda, ct, cc, rfl, lk, hcd, ⟨cl, cld, csl, lc⟩, ccl, cdd, fvs, ccs, file, tf, lcd, hvs, hfile⟩ := D.fn
  cases rv with
  | @cons _ u0 _ ur ra rv' =>
    cases rv' with
    | @cons _ uv _ _ rr rn =>
      cases rn
      obtain rfl : u0 = Value.ref a := ra
      have KX : K.In s.heap := e0.mod.kin.keeps fun b o e => (e0.bs b o e).1
      have lim : s.heap.NoLimit := e0.mod.nolimit.keeps fun b o e => (e0.bs b o e).1
      obtain ⟨t1, ho⟩ := exo_at e0.hok ha
      obtain ⟨nmC, qC, NC, bsC, bmC, snC, subC, abC, colC, ddC, k0, k1, k2, k3, k5, hC, hbm⟩ := D.oex.cls
      obtain ⟨ar, har, har2⟩ := hp
      obtain ⟨mb, hmb, hbt⟩ := e0.mod.blt
      have haC : a ≠ He.ga K c := fun z => by
        have hb1 : base.get? (He.ga K c) = _ := e0.mod.kin _ _ hC
        have := (e0.bs _ _ hb1).2
        rw [← z, ha] at this
        cases this
      subst hbody
      have hlk1 : ([(("self" : Str), Value.ref a), (par, uv)] : List (Str × Value)).reverse.lookup ("self" : Str) = some (Value.ref a) := by
        have e : (("self" : Str) == par) = false := by rw [beq_eq_false_iff_ne]; exact fun z => hne z.symm
        simp [List.lookup, e]
      have hlk2 : ([(("self" : Str), Value.ref a), (par, uv)] : List (Str × Value)).reverse.lookup par = some uv := by simp [List.lookup]
      refine PySem.ks_codeAny_call_defAt (binds := [("self", .ref a), (par, uv)]) hr.depth (KX _ _ lk) rfl lim (PySem.W.codeRec_of KX hcd) rfl hb hcell (fun y hy => ?_) (fun h₁ hns keep => ?_) hco hgen hk
      · rcases List.mem_cons.mp hy with rfl | hy
        · exact hka
        · rw [List.mem_singleton.mp hy]; exact hkp
      have K1 : K.In h₁ := KX.keeps keep
      have g1 : h₁.Ns mainGlobals mg := e0.mod.glob.keeps fun b o e => keep b o (e0.bs b o e).1
      have b1 : h₁.Ns builtinsNs mb := hmb.keeps fun b o e => keep b o (e0.bs b o e).1
      have nL : s.heap.objs.size ≠ a := Nat.ne_of_gt (Heap.lt_size ho)
      refine PySem.ks_wpAt_execs_cons (PySem.ks_wpAt_Expr_any (hi := by unfold interactive; show (scope.kind == _ && _) = false; rw [hk]; rfl) (hs := hsw2 _) (PySem.ks_wpAt_MethodCall (he := hev _) (PySem.ks_wpAt_super_base hks hkc (by decide) rfl (K1 _ _ lk) rfl har rfl (K1 _ _ lcd) rfl hvs hfile D.top ?_)))
      rw [har2]
      refine PySem.W.ks_loadName_global hk hks (Calls.loadGlobal_builtin g1 hms b1 ((hbt "super" (by decide)).trans (by decide +kernel : bootBuiltins ("super" : Str) = some (.type "super"))) ⟨rfl, ?_⟩)
      refine wpAny_loadName_free hk hkc rfl ⟨_, K1 _ _ lc, rfl⟩ ?_
      refine wpAny_loadName_local hk hka hns hlk1 ?_
      obtain ⟨sh, sg, sd, stk, sos⟩ := s
      refine PySem.ks_wpAny_isType_cls (K1 _ _ hC) rfl ⟨rfl, ?_⟩
      refine PySem.ks_wpAny_call_super (K1 _ _ hC) rfl (keep _ _ ho) rfl (fun c z => nomatch z) (PySem.W.looks_mroIn K1 D.sub) fun h2 hso kp2 => ?_
      have K2 : K.In h2 := K1.keeps kp2
      have ho2 := kp2 _ _ (keep _ _ ho)
      have I2 : PySem.W.InstAt h2 a _ (He.ga K c) none := ⟨ho2, rfl, rfl, trivial⟩
      obtain ⟨cd, hcl, hal⟩ : ∃ cd, PySem.W.clsIn K (He.ga K c) = some cd ∧ PySem.W.alongIn K "__init__" ((cd.mro.dropWhile (· != .ref (He.ga K c))).drop 1) = some (some (.builtin "ValueError.__init__")) := by
        have hm := D.sup
        unfold PySem.W.ks_superIn at hm
        cases hc : PySem.W.clsIn K (He.ga K c) with
        | none => rw [hc] at hm; cases hm
        | some cd => rw [hc] at hm; exact ⟨cd, rfl, hm⟩
      refine PySem.W.kxs_getMethod PySem.W.kxs_ValueError hso (PySem.W.looks_opaque K2 D.st) (l₀ := cd.mro) (fun A Q E s k q => wpAny_bind ((PySem.W.looks_clsIn K2 hcl) A _ E s k (wpAny_pure q))) rfl K2 hal (I2.type.andThen (PySem.W.looks_subIn K2 D.ve)) haC (by decide) ?_
      have K3 : K.In (h2.push (PySem.W.kxs_mw "ValueError.__init__" a)) := K2.keeps fun b o e => Heap.get?_push_of_some _ e
      have hu : (h2.push (PySem.W.kxs_mw "ValueError.__init__" a)).get? h2.objs.size = some (PySem.W.kxs_mw "ValueError.__init__" a) := Heap.get?_push_at rfl rfl
      have ho3 := Heap.get?_push_of_some (PySem.W.kxs_mw "ValueError.__init__" a) ho2
      refine PySem.W.kxs_callWith (i := "ValueError.__init__") (x := a) rfl (Calls.evalArgs_plain ?_)
      show wpAny _ _ (spliced ((false, eval (.Constant (.str msg) j p3) _) :: backTo p4 (starEach [] _))) _ _ _
      refine Calls.spliced_cons (wpAny_Constant_str ?_)
      refine Calls.spliced_nil ⟨hu, ?_⟩
      refine wpAny_call (codeAny_of_tree ?_)
      show wpAny _ _ (callAny (.ref h2.objs.size) ⟨[.str msg _], []⟩) _ _ _
      simp only [callAny]
      refine wpAny_bind (wpAny_load hu ?_)
      simp only [PySem.W.kxs_mw, show (Value.type "method-wrapper" == Value.type "method" || Value.type "method-wrapper" == Value.type "builtin_function_or_method" || Value.type "method-wrapper" == Value.type "method-wrapper") = true by decide, if_true]
      refine PySem.W.KFB.if_so (by decide) ?_
      refine wpAny_bind (PySem.W.check_bound_init PySem.F.excBase_ValueError.toExcCallFacts (K3 _ _ hC) ho3 rfl ?_)
      refine wpAny_bind (wpAny_pure (wpAny_pure ?_))
      refine ⟨plainId_quiet PySem.F.excBase_ValueError.init.plain _, codeAny_builtin PySem.F.excBase_ValueError.initEntry ?_⟩
      refine PySem.W.exc_init_tree (cls := .ref (He.ga K c)) (t0 := t1) (dv := none) (c2 := .none) (c3 := .none) (b4 := .bool false) ho3 (by rw [sizeLine_eq]; show 1 ≤ 16777216; decide) fun h4 k4 ho4 _ => ?_
      have kall : ∀ b o, b ≠ a → h₁.get? b = some o → h4.get? b = some o := fun b o hb e => k4 b o hb (Heap.get?_push_of_some _ (kp2 b o e))
      have K4 : K.In h4 := fun b o e => kall b o (fun z => by
        have e1 := (e0.bs _ _ (e0.mod.kin _ _ e)).2
        rw [z, ha] at e1
        cases e1) (K1 _ _ e)
      have hns4 := hns.at (h' := h4) fun o e => kall _ o nL e
      have hcl2 : PySem.W.clsIn K (He.ga K c) = some { name := nmC, bases := bsC, mro := .ref (He.ga K c) :: bmC, ns := NC, qualname := qC, hasDict := true, slotNames := snC, subclasses := subC, abstract := abC, collection := colC, hasDel := false } := by unfold PySem.W.clsIn; rw [hC] <;> rfl
      show _root_.PySem.wpAt _ _ _ (execs [.Assign [.Attribute (.Name "self" p6) fld p7] (.Name par p8) p9] _) _ _ _
      refine PySem.ks_wpAt_execs_cons (wpAt_of_wpAny (plainObj_wpAny_Assign_Attribute (wpAny_Name (wpAny_loadName_local hk hkp hns4 hlk2 (wpAny_Name (wpAny_loadName_local hk hka hns4 hlk1 ?_) (by decide))) hpd) (hsw _)))
      refine PySem.W.set_plain K4 (od := none) ⟨ho4, rfl, rfl, trivial⟩ D.oex.sa ?_
      refine PySem.HandSPX.exc_osa K4 ho4 hcl2 (show PySem.HandSPX.refsVE (.ref (He.ga K c) :: bmC) = true from hbm) rfl D.no (fun h' tk' dx kk dn dne hx hn => ?_)
      have kfin : ∀ b o, b ≠ a → sh.get? b = some o → h'.get? b = some o := fun b o hb e => kk b o hb (kall b o hb (keep b o e))
      have dn0 : sh.objs.size ≤ dx := by
        obtain ⟨o, _, _, e, _⟩ := hns4
        exact Nat.le_trans (Nat.le_of_lt (Heap.lt_size e)) dn
      have hnd : H dx = none := e0.hok.fresh dn0
      have nd : ∀ {b : Addr} {o : Obj}, sh.get? b = some o → b ≠ dx := fun {b o} q => Nat.ne_of_lt (Nat.lt_of_lt_of_le (Heap.lt_size q) dn0)
      have na : ∀ {b : Addr}, H b = none → b ≠ a := fun {b} n z => by
        rw [z, ha] at n
        cases n
      show _root_.PySem.wpAt _ _ _ (execs [] _) _ _ _
      refine wpAt_of_wpAny (wpAny_execs_nil ?_)
      refine ⟨.non, upd (upd H dx (exd dx [(fld, v)])) a (exo a (He.ga K c) (some dx)), rfl, e0.bare, ⟨fun b o q n _ _ => kfin b o (na n) q, fun b o q n _ _ => ⟨o.slots, kfin b o (na n) q⟩, fun b o q n _ => by rw [upd_ne (na n), upd_ne (nd q)]; exact n, fun b o q _ => ?_, fun b xs q => by rw [upd_ne (at_ne ha q exo_tup), upd_ne (ne_of_none q hnd)]; exact q, fun b o v q => by rw [upd_ne (at_ne ha q exo_frz), upd_ne (ne_of_none q hnd)]; exact q, fun b ps q => ⟨#[], by rw [upd_ne (at_ne ha q exo_tbl), upd_ne (ne_of_none q hnd), q]; simp⟩⟩, fun b o q => ?_, rfl, q dx hnd dne⟩
      · by_cases hb : b = a
        · exact ⟨_, by rw [hb]; exact hx⟩
        · exact ⟨o, kfin b o hb q⟩
      · by_cases hb : b = a
        · subst hb
          rw [upd_same] at q
          cases q
          exact exo_ok hx
        · rw [upd_ne hb] at q
          by_cases hd : b = dx
          · subst hd
            rw [upd_same] at q
            cases q
            exact exd_ok hn (relO_put (fs := []) rr fun g => True.intro)
          · rw [upd_ne hd] at q
            exact (e0.hok b o q).stay (fun c v hc z => kfin c v (by
                rcases hc with hc | hc
                · rw [hc]
                  exact hb
                · exact at_ne ha hc exo_own) z)
              (fun c hc => by rw [upd_ne (at_ne ha hc exo_own), upd_ne (ne_of_none hc hnd)]; exact hc) (fun c xs hc => by rw [upd_ne (at_ne ha hc exo_tup), upd_ne (ne_of_none hc hnd)]; exact hc)
end
/-! ### raise C(e) -/
/-- a new exception's dict -/
structure NewX (H : Hp) (fs : List (Str × V)) (k : Addr → Hp → Prop) : Prop where
  go : ∀ d, H d = none → k d (upd H d (.xd fs))
def dRsI (K : Frag) (c fld : Str) (W : WX) (i : Nat) : TS := fun _ σ H => onSome (nth σ i) fun v => NewX H [(fld, v)] fun d H2 => W (.ref (He.ga K c)) (some d) σ H2
theorem xi_heap {H : Hp} {a dx C : Addr} {fld : Str} {v : V} (ha : H a = none) (hd : H dx = none) (hne : dx ≠ a) : upd (del (upd (upd (upd H a (exo a C none)) dx (exd dx [(fld, v)])) a (exo a C (some dx))) a) dx (.xd [(fld, v)]) = upd H dx (.xd [(fld, v)]) := by
  funext b
  by_cases h1 : b = dx
  · rw [h1, upd_same, upd_same]
  · rw [upd_ne h1, upd_ne h1]
    by_cases h2 : b = a
    · rw [h2, del_same, ha]
    · rw [del_ne h2, upd_ne h2, upd_ne h1, upd_ne h2]
theorem ps_rsI {X : Cx} {c fld nm qual par msg : Str} {params : Arguments} {body : List Stmt} {scope : Scope} {fI : Addr} {p0 p1 p2 p3 p4 p5 p6 p7 p8 p9 pp ppos ppos' : Pos} {j : Nat} {pl : Env → Sem Bool} {W : WX} {e : Expr} {ix : Nat} (tk : Takes X W)
    (D : ∃ fd, XiF X.prog X.K c fld nm qual params body scope fI fd) (hms : X.mg "super" = none) (gC : X.mg c = some (.ref (He.ga X.K c))) (hr : Room 1 X.A) (he : PE X e (dVar ix))
    (hbind : ∀ (kV doc pm : Value) (an : Option Addr) (cdv ct : Value) (cc : Addr) (us : List Value), us.length = 2 → bindArgs (PySem.W.ksFn nm qual params body scope .none kV doc pm an cdv ct cc) ⟨us, []⟩ = pure ([("self" : Str), par].zip us))
    (hbody : body = [.Expr (.Call (.Attribute (.Call (.Name "super" p0) [] [] p1) "__init__" p2) [.Constant (.str msg) j p3] [] p4) p5, .Assign [.Attribute (.Name "self" p6) fld p7] (.Name par p8) p9])
    (hp : ∃ ar, (params.posonlyargs ++ params.args).head? = some ar ∧ ar.arg = "self") (hk : scope.kind = .function) (hco : scope.isCoroutine = false) (hgen : scope.isGenerator = false) (hcell : ∀ x ∈ scope.names, x.2 ≠ .cell)
    (hks : scope.names.lookup ("super" : Str) = some .globalImplicit) (hkc : scope.names.lookup ("__class__" : Str) = some .free) (hka : scope.names.lookup ("self" : Str) = some .local) (hkp : scope.names.lookup par = some .local) (hne : par ≠ "self") (hpd : (par == ("__debug__" : Str)) = false)
    (hsw : ∀ env, swapsWith (.Name par p8) (some (.Attribute (.Name "self" p6) fld p7)) p9.line env = pure false) (hsw2 : ∀ env, swapsWith (.Call (.Attribute (.Call (.Name "super" p0) [] [] p1) "__init__" p2) [.Constant (.str msg) j p3] [] p4) none p5.line env = pure false)
    (hev : ∀ env, eval (.Call (.Attribute (.Call (.Name "super" p0) [] [] p1) "__init__" p2) [.Constant (.str msg) j p3] [] p4) env = (do
      let ov ← attributeBase (.Call (.Name "super" p0) [] [] p1) "__init__" env (eval (.Call (.Name "super" p0) [] [] p1) env)
      standAt p2.atName
      let (f, first) ← holding [ov] (getMethod ov "__init__" (pl env))
      callWith p4 f first (backTo p4 (starEach [.Constant (.str msg) j p3] env)) []))
    (hc : X.calm = true := by rfl) (hg : Gl X c := by rfl) (hdb : (c == ("__debug__" : Str)) = false := by decide) (hst : starEach [e] X.env = (false, eval e X.env) :: starEach [] X.env := by rfl) (hpl : (backTo ppos (starEach [] X.env)).any (·.1) = false := by rfl) :
    PS X (.Raise (some (.Call (.Name c pp) [e] [] ppos)) none ppos') (dRsI X.K c fld W ix) := by
  obtain ⟨fd, D⟩ := D
  have F1 : FnOk X.prog X.w X.K X.mg X.base (L2.CX X.prog X.w) 0 fI fd ["self", par] (spXi X.K c fld) := xi_ok D hms hbody hp hk hco hgen hcell hks hkc hka hkp hne hpd hsw hsw2 hev
  have hb : Binds X.K fd ["self", par] [] := by
    obtain ⟨oc, od, osl, kV, doc, pm, an, cda, ct, cc, rfl, _⟩ := D.fn
    exact Binds.all fun us hl => hbind _ _ _ _ _ _ _ us hl
  have pm := pmk_oex (X := X) (p := pp) (pos := ppos) D.oex D.ini D.tI F1 hr hb .nil (fun _ _ _ _ _ _ _ h => by
    obtain ⟨_, _, _, _, _, _, _, _, _, _, _, _, z⟩ := h
    exact z.elim) hg gC (pa_cons he pa_nil hst) hdb hst hpl
  refine PS.of (ps_raise hc tk pm) fun DD σ H q => ?_
  unfold dRsI at q
  show onSome (nth σ ix) _
  cases hx : nth σ ix with
  | none => rw [hx] at q; exact q.elim
  | some v =>
    rw [hx] at q
    have q : NewX H [(fld, v)] fun d H2 => W (.ref (He.ga X.K c)) (some d) σ H2 := q
    refine ⟨show 1 ≤ 1000 by decide, fun a ha => ⟨a, v, rfl, upd_same, fun dx hdx hne => ⟨rfl, dx, [(fld, v)], upd_same, by rw [upd_ne hne, upd_same], ?_, ?_⟩⟩⟩
    · rw [upd_ne hne] at hdx; exact hdx
    · rw [upd_ne hne] at hdx
      rw [xi_heap ha hdx hne]
      exact q.go dx hdx
/-! ### e.f, e the exception of the suite -/
structure XfF (K : Frag) (c fld : Str) : Prop where
  xf : XfC K (He.ga K c)
  no : PySem.W.findIn K (.ref (He.ga K c)) fld = some none
theorem xffB_ok {K : Frag} {c fld : Str} (h : xffB c fld K = true) : XfF K c fld := let ⟨a, b⟩ := He.ba h; ⟨xfB_ok a, of_decide_eq_true b⟩
structure XAt (K : Frag) (H : Hp) (a : Addr) (cls : Value) (d : Option Addr) (c fld : Str) (x : V) (k : V → Prop) : Prop where
  ex : ∃ (dd : Addr) (fs : List (Str × V)) (v : V), x = .ref a ∧ cls = .ref (He.ga K c) ∧ d = some dd ∧ H dd = some (.xd fs) ∧ fs.lookup fld = some v ∧ k v
def dXf (K : Frag) (a : Addr) (cls : Value) (d : Option Addr) (c fld : Str) (te : TE) : TE := fun σ H Q => te σ H fun x H1 => XAt K H1 a cls d c fld x fun v => Q v H1
theorem pe_xfX {X : Cx} {a : Addr} {oe : Obj} {cls : Value} {d : Option Addr} {pn : List (Addr × Obj)} {e : Expr} {te : TE} {pos : Pos} {c fld : Str} (T : XfF X.K c fld) (hz : Zc cls d oe) (hf : ∃ vs, oe.data = .fields vs) (he : PE (X.suite a ((a, oe) :: pn)) e te)
    (hb : attributeBase e fld X.env (eval e X.env) = eval e X.env := by rfl) : PE (X.suite a ((a, oe) :: pn)) (.Attribute e fld pos) (dXf X.K a cls d c fld te) := by
  refine PE.of (pe_xf T.xf T.no hz hf he hb) fun σ H Q q => ?_
  have e : (fun (x : V) (H1 : Hp) => XAt X.K H1 a cls d c fld x fun v => Q v H1) = fun x H1 => x = .ref a ∧ cls = .ref (He.ga X.K c) ∧ ∃ (dd : Addr) (fs : List (Str × V)) (v : V), d = some dd ∧ H1 dd = some (.xd fs) ∧ fs.lookup fld = some v ∧ Q v H1 := by
    funext x H1
    refine propext ⟨fun ⟨dd, fs, v, h1, h2, h3, h4, h5, h6⟩ => ⟨h1, h2, dd, fs, v, h3, h4, h5, h6⟩, fun ⟨h1, h2, dd, fs, v, h3, h4, h5, h6⟩ => ⟨dd, fs, v, h1, h2, h3, h4, h5, h6⟩⟩
  show te σ H _
  rw [← e]
  exact q
/-! ### such a class in the head -/
theorem cellTo_ok {K : Frag} {cc C : Addr} (h : cellTo K cc C = true) : ∃ cl cld csl, K.lookup cc = some ⟨cl, cld, .cell (some (.ref C)), csl⟩ := by
  unfold cellTo at h
  split at h
  · rename_i cl cld D csl lc
    have e := of_decide_eq_true h
    subst e
    exact ⟨_, _, _, lc⟩
  · cases h
theorem codeFile_ok {P : Program} {K : Frag} {cda : Addr} (h : codeFile P K cda = true) : ∃ ccl cdd vs ccs file tf, K.lookup cda = some ⟨ccl, cdd, .fields vs, ccs⟩ ∧ vs[2]? = some (.str file tf) ∧ ((P.main.file : Str) == file) = true := by
  unfold codeFile at h
  split at h
  · rename_i ccl cdd vs ccs lcd
    split at h
    · rename_i file tf hvs
      exact ⟨ccl, cdd, vs, ccs, file, tf, lcd, hvs, h⟩
    · cases h
  · cases h
theorem cloB_ok {P : Program} {K : Frag} {C : Addr} {code : Value} {clo : List (Str × Addr)} (h : cloB P K C code clo = true) : ∃ cda nm cc, code = .ref cda ∧ clo = [(nm, cc)] ∧ cellTo K cc C = true ∧ codeFile P K cda = true := by
  unfold cloB at h
  split at h
  · obtain ⟨h1, h2⟩ := He.ba h
    exact ⟨_, _, _, rfl, rfl, h1, h2⟩
  · cases h
theorem xi_of {P : Program} {K : Frag} {c fld nm qual : Str} {params : Arguments} {body : List Stmt} {scope : Scope} (e : fnX K (He.fAd K (c, some "__init__")) = some (nm, qual, params, .stmts body, scope, mainGlobals, [(("__class__" : Str), (0 : Addr))], builtinsNs)) (h : xiB P c fld K = true) :
    ∃ fd, XiF P K c fld nm qual params body scope (He.fAd K (c, some "__init__")) fd := by
  obtain ⟨h1, h⟩ := He.ba h
  obtain ⟨h2, h⟩ := He.ba h
  obtain ⟨h3, h⟩ := He.ba h
  obtain ⟨h4, h⟩ := He.ba h
  obtain ⟨h5, h⟩ := He.ba h
  obtain ⟨h6, h⟩ := He.ba h
  obtain ⟨h7, h⟩ := He.ba h
  obtain ⟨h8, h⟩ := He.ba h
  obtain ⟨h9, h10⟩ := He.ba h
  unfold fnX at e
  unfold fnB at h1
  cases lk : K.lookup (He.fAd K (c, some "__init__")) with
  | none => rw [lk] at e; cases e
  | some o =>
    rw [lk] at e h1
    obtain ⟨oc, od, dat, osl⟩ := o
    cases dat <;> try cases e
    rename_i fd
    obtain ⟨k1, k0⟩ := He.ba h1
    obtain ⟨kd, k2⟩ := He.ba k0
    obtain ⟨n1, n2, n3, n4, n5, n6, n7, n8, n9, n10, n11, n12, n13, n14, n15⟩ := fd
    simp only [Option.some.injEq, Prod.mk.injEq] at e
    obtain ⟨e1, e2, e3, e4, e5, e6, e7, e8⟩ := e
    subst e1 e2 e3 e4 e5 e6 e8
    dsimp only at k1 k2 kd
    have hdn : n8 = Value.none := by
      rcases He.dflB_ok kd with ⟨_, z⟩ | ⟨z, _⟩
      · exact z
      · exact absurd rfl z
    subst hdn
    obtain ⟨cda, nmc, cc, ec, eclo, h3', h4'⟩ := cloB_ok k2
    subst ec eclo
    have enm : nmc = "__class__" := by simpa using e7
    subst enm
    exact ⟨_, ⟨⟨oc, od, osl, _, _, _, _, cda, _, cc, rfl, lk, k1, cellTo_ok h3', codeFile_ok h4'⟩, of_decide_eq_true h2, He.eqO_ok h3, of_decide_eq_true h4, of_decide_eq_true h5, oexB_ok h6, of_decide_eq_true h7, He.eqO_ok h8, of_decide_eq_true h9, by simpa using h10⟩⟩
end S
namespace S
open PySem PySem.Spec PyProof.Rows L2
/-! ### x not in o, o with its own __contains__ -/
section
variable {X : Cx} {k : Nat} {g : Addr} {sp : Sp} {E : XK} {c : Str}
end
/-! ### n.bit_length() -/
/-- the least width of a number -/
def widI (i : Int) : Nat := Builtin.Int.intBits (if i < 0 then -i - 1 else i) + 1
theorem bits_lt {i : Int} (h : 0 ≤ i) : i < 2 ^ Builtin.Int.intBits i := by
  unfold Builtin.Int.intBits
  by_cases h0 : i = 0
  · subst h0; decide
  · rw [if_neg (by simpa using h0)]
    have h1 : i.natAbs < 2 ^ (i.natAbs.log2 + 1) := Nat.lt_log2_self
    have h2 : ((2 : Int) ^ (i.natAbs.log2 + 1)) = ((2 ^ (i.natAbs.log2 + 1) : Nat) : Int) := by simp
    rw [h2]; omega
theorem widI_fit (i : Int) : -(2 ^ (widI i - 1) : Int) ≤ i ∧ i < 2 ^ (widI i - 1) := by
  unfold widI
  rw [Nat.add_sub_cancel]
  by_cases h : i < 0
  · rw [if_pos h]
    have := bits_lt (i := -i - 1) (by omega)
    omega
  · rw [if_neg h]
    have := bits_lt (i := i) (by omega)
    omega
end S
namespace S
open PySem PySem.Spec PyProof.Rows L2
/-! ### range(a, b, -1) -/
def iR3 (vs : List V) (H : Hp) (R : It → Hp → Prop) : Prop := match vs with
  | [.int i, .int j, .int c] => Need (c = -1) (Need (-(2 ^ 62) ≤ i ∧ i < 2 ^ 62 ∧ -(2 ^ 62) ≤ j ∧ j < 2 ^ 62) (R (Itc i (-1) (i - j).toNat) H))
  | _ => False
def iRngD (ta : TA) : TI := fun σ H R => ta σ H fun vs H1 => iR3 vs H1 R
theorem pi_rngD {X : Cx} {tg a b c : Expr} {ta : TA} {p pos : Pos} (hg : Gl X "range") (hm : X.mg "range" = none) (ha : PA X [a, b, c] ta)
    (hs : starEach [a, b, c] X.env = (false, eval a X.env) :: starEach [b, c] X.env := by rfl) (hpl : (backTo pos (starEach [b, c] X.env)).any (·.1) = false := by rfl) :
    PI X tg (.Call (.Name "range" p) [a, b, c] [] pos) (iRngD ta) := by
  refine ⟨fun pins s σ H R I h => ?_⟩
  refine Call_ (ld_blt I hg hm boot_range (PyProof.Rows.callWith_type1 (thn (ha.run pos pins s σ H _ I h) fun us s1 ⟨vs, H1, I1, r1, q1⟩ => ?_) hs hpl))
  match vs, q1 with
  | [.int i, .int j, .int k], ⟨e, ⟨q1, q2, q3, q4⟩, q⟩ =>
    subst e
    obtain ⟨c0, c1, c2, c3⟩ := RgC.neg q1 q2 q3 q4
    cases r1 with
    | cons r rr =>
      cases rr with
      | cons r' rr =>
        cases rr with
        | cons r'' rr =>
          cases rr
          obtain ⟨t, rfl⟩ := r
          obtain ⟨t', rfl⟩ := r'
          obtain ⟨t'', rfl⟩ := r''
          refine call_range_3 c0 ?_ (.inl (PyProof.noPylong_small c1))
          refine wpAny_pyIter_range (IsRange.new ..) c2 ?_
          have I2 : Inv X pins σ H1 { s1 with heap := s1.heap.push { cls := .type "range", data := .fields #[.int i t, .int j t', .int (-1) t''] } } := I1.kept (t' := s1.toks) fun b o e => Heap.get?_push_of_some _ e
          refine pi_one (tk := s1.toks) I2 _ (turn_rangeC _ i (-1) (i - j).toNat) ?_ q
          have e1 : i + ((0 : Nat) : Int) * (-1) = i := by simp
          have e2 : (((i - j).toNat : Nat) : Int) - ((0 : Nat) : Int) = Builtin.Range.rangeSize i j (-1) := by rw [c3]; simp
          show IsRangeIter _ _ (i + ((0 : Nat) : Int) * (-1)) ((((i - j).toNat : Nat) : Int) - ((0 : Nat) : Int)) (-1)
          rw [e1, e2]
          exact Heap.get?_push_size _ rfl
theorem for_rngD {a b : Int} {g : TG} {tb : TS} {D : Ends} {σ : L2.St} {H : Hp} (Pv : Nat → L2.St → Hp → Prop) (h0 : Pv 0 σ H)
    (hs : ∀ (i : Nat) σ H, b < a - (i : Int) → Pv i σ H → g (.int (a - i)) σ H fun σ2 H2 => tb { D with nx := Pv (i + 1), ct := Pv (i + 1), bk := D.nx } σ2 H2) (hd : ∀ σ H, Pv (a - b).toNat σ H → D.nx σ H) :
    LoopR D g tb σ (Itc a (-1) (a - b).toNat) H := by
  refine L2.for_rangeC (lo := a) Pv h0 (fun i σ H hi q => ?_) hd
  have z := hs i σ H (by omega) q
  have e : a + (i : Int) * (-1) = a - i := by omega
  rw [e]; exact z
/-! ### the head, its looks one by one -/
end S
namespace S
open PySem PySem.Spec PyProof.Rows L2
/-! ### i op x, x an instance with its own reflected op -/
section
variable {prog : Program} {w : World} {A : Around} {E : Value → Shared → Prop} {s : Shared} {K : Frag} {x C L f g : Addr} {h₀ : Heap} {m : Str → Option Value} {ox : Obj} {od : Option Obj}
end
theorem sub_int {K : Frag} {a : Addr} : PySem.W.subIn K (.type "int") (.ref a) = some false := by
  show (PySem.fastBuiltinMro "int").map (·.contains (.ref a)) = _
  obtain ⟨l, hl⟩ := Option.isSome_iff_exists.mp (show (PySem.fastBuiltinMro "int").isSome = true by decide)
  rw [hl]
  unfold PySem.fastBuiltinMro at hl
  obtain ⟨r, _, rfl⟩ := Option.map_eq_some_iff.mp hl
  rw [Option.map_some]
  congr 1
  rw [Bool.eq_false_iff]
  intro z
  rw [List.contains_iff_mem, List.mem_map] at z
  obtain ⟨_, _, e⟩ := z
  cases e
section
variable {X : Cx} {k kR : Nat} {g gR : Addr} {sp spR : Sp} {E : XK} {c : Str} {ups : List Str} {tys : List String}
end
end S
namespace S
open PySem PySem.Spec PyProof.Rows L2
/-! ### abs of an instance with its own __abs__ -/
section
variable {X : Cx} {k : Nat} {g : Addr} {sp : Sp} {E : XK} {c : Str} {ups : List Str} {tys : List String}
end
/-! ### x op i, x an instance whose class has no reflected op -/
section
variable {X : Cx} {k : Nat} {g : Addr} {sp : Sp} {E : XK} {c : Str} {ups : List Str} {tys : List String}
end
/-! ### == of two tuples of instances with their own == -/
section
variable {prog : Program} {w : World} {A : Around} {R : Result → Shared → Prop}
end
section
variable {X : Cx} {k : Nat} {g : Addr} {sp : Sp} {E : XK} {c : Str}
end
end S
namespace S
open PySem PySem.Spec PyProof.Rows L2
/-! ### x op y: two instances of c by their own def; two others by r -/
section
variable {X : Cx} {k kR : Nat} {g gR : Addr} {sp spR : Sp} {E : XK} {c : Str} {ups : List Str} {tys : List String}
end
end S
namespace S
open PySem PySem.Spec PyProof.Rows L2
/-! ### the head's look, over what the named ones reach -/
end S
namespace S
open PySem PySem.Spec PyProof.Rows L2
/-! ### classes whose instances have a dict -/
structure DF (K : Frag) (x : Str) (ups : List Str) (fs : List Str) : Prop where
  mf : MF K x ups ["object"]
  cl : Cls K (He.ga K x)
  ha : PySem.W.findIn K (.ref (He.ga K x)) "__class__" = some (some (.builtin "object.__class__"))
  hn : PySem.W.specialIn K (.builtin "object.__class__") "__get__" = some (some (.builtin "getset_descriptor.__get__"))
  ht : PySem.W.takesIn K (.builtin "object.__class__") = some true
  hm : PySem.W.mroIn K (He.ga K x) (.type "object") = some true
  na : ∀ f ∈ fs, NoAttr K (He.ga K x) f
theorem dfB_ok {K : Frag} {x : Str} {ups fs : List Str} (h : dfB x ups fs K = true) : DF K x ups fs := by
  obtain ⟨h1, h⟩ := He.ba h
  obtain ⟨h2, h⟩ := He.ba h
  obtain ⟨h3, h⟩ := He.ba h
  obtain ⟨h4, h⟩ := He.ba h
  obtain ⟨h5, h⟩ := He.ba h
  obtain ⟨h6, h7⟩ := He.ba h
  exact ⟨mfB_ok h1, He.cls_ok h2, He.eqO_ok h3, He.eqO_ok h4, of_decide_eq_true h5, of_decide_eq_true h6, fun f hf => He.eqO_ok (List.all_eq_true.mp h7 f hf)⟩
section
variable {K : Frag} {H : Hp} {a dx : Addr} {x f : Str} {ups fs : List Str} {as : List (Str × V)}
theorem Atr.df {k : V → Prop} {v : V} (c : DF K x ups fs) (h : H a = some (.ins (He.ga K x) dx as)) (l : as.lookup f = some v) (q : k v) (hf : f ∈ fs := by decide) : Atr K H a f k := ⟨.inr ⟨_, dx, as, v, h, c.cl, c.na f hf, l, q⟩⟩
theorem Sto.df {k : Hp → Prop} {y : V} (c : DF K x ups fs) (h : H a = some (.ins (He.ga K x) dx as)) (l : as.length < 1000) (q : k (upd H a (.ins (He.ga K x) dx (putF f y as)))) (hf : f ∈ fs := by decide) : Sto K H a f y k := ⟨.inr ⟨_, dx, as, h, c.cl, c.na f hf, l, q⟩⟩
theorem Isi.df {y : Str} {ups' : List Str} {tys' : List String} {k : Bool → Prop} (c : DF K x ups fs) (h : H a = some (.ins (He.ga K x) dx as)) (n : MF K y ups' tys') (q : k (decide (y ∈ x :: ups))) : Isi K H (.ref a) (.ref (He.ga K y)) k :=
  Isi.of (.base (.ins h c.cl c.ha c.hn c.ht c.hm)) (mf_kit c.mf n) q
end
/-! ### methods, properties of such instances -/
structure IsD (K : Frag) (H : Hp) (c m : Str) (a : Addr) (q : Prop) : Prop where
  ex : ∃ dx fs, H a = some (.ins (He.ga K c) dx fs) ∧ fs.lookup m = none
  q : q
theorem IsD.of {K : Frag} {H : Hp} {c m : Str} {a dx : Addr} {fs : List (Str × V)} {q : Prop} (h : H a = some (.ins (He.ga K c) dx fs)) (h2 : q) (l : fs.lookup m = none := by rfl) : IsD K H c m a q := ⟨⟨dx, fs, h, l⟩, h2⟩
def dMethD (K : Frag) (c m : Str) (sp : Sp) (E : L2.St → XK) (ta : TE) (t : TA) : TE := fun σ H Q => ta σ H fun x H1 => match x with
  | .ref a => IsD K H1 c m a (t σ H1 fun ws H2 => sp (.ref a :: ws) H2 Q (E σ))
  | _ => False
section
variable {X : Cx} {k : Nat} {g : Addr} {sp : Sp} {E : L2.St → XK} {x c m : Str} {p pos apos : Pos} {e o : Expr} {es : List Expr} {t : TA} {ta : TE}
theorem pe_methD {pl : Sem Bool} (hc : Cls X.K (He.ga X.K c)) (hm : Meth X.K (He.ga X.K c) m g) (F : FnR X.prog X.w X.K X.mg X.base (L2.CX X.prog X.w) k g sp) (hr : Room k X.A) (hx : ∀ σ, PassesAt (L2.CX X.prog X.w) X σ (E σ)) (he : PE X o ta) (ha : PA X (e :: es) t)
    (hst : starEach (e :: es) X.env = (false, eval e X.env) :: starEach es X.env := by rfl) (hpl : (backTo pos (starEach es X.env)).any (·.1) = false := by rfl)
    (ht : eval (.Call (.Attribute o m apos) (e :: es) [] pos) X.env = (do
      let ov ← eval o X.env
      standAt apos.atName
      let (f, first) ← holding [ov] (getMethod ov m pl)
      callWith pos f first (backTo pos (starEach (e :: es) X.env)) (backToKw pos (keywordEach [] X.env))) := by rfl) :
    PE X (.Call (.Attribute o m apos) (e :: es) [] pos) (dMethD X.K c m sp E ta t) := by
  refine ⟨fun pins s σ H Q I h => ?_⟩
  refine PySem.W.methodCall_KW (pl := pl) (thn (he.run pins s σ H _ I h) fun u s1 ⟨x, H1, I1, rx, q⟩ => ?_) ht
  cases x <;> try exact q.elim
  cases rx
  obtain ⟨⟨dx, fs, ea, l⟩, q⟩ := q
  refine getmeth_ok I1 ea hc hm l ?_
  refine PySem.W.callWith_K (first := [.ref _]) (h₀ := X.base) I.ok.mod.kin hm.kp (thn (ha.run pos pins s1 σ H1 _ I1 q) fun us s2 ⟨ws, H2, I2, r, q2⟩ => ⟨I2.kIn, ?_⟩) hst hpl
  exact run_R (us := .ref _ :: us) (vs := .ref _ :: ws) F hr (hx σ) I2 (.cons rfl r) q2
def dPropD (K : Frag) (c f : Str) (sp : Sp) (ta : TE) : TE := fun σ H Q => ta σ H fun x H1 => match x with
  | .ref a => IsD K H1 c f a (sp [.ref a] H1 Q E0)
  | _ => False
theorem pe_propD {f : Str} {n : Nat} (hc : Cls X.K (He.ga X.K c)) (pf : PropF X.K c f g) (F : FnR X.prog X.w X.K X.mg X.base (L2.CX X.prog X.w) n g sp) (hr : Room (n + 1) X.A) (he : PE X e ta)
    (hb : attributeBase e f X.env (eval e X.env) = eval e X.env := by rfl) : PE X (.Attribute e f pos) (dPropD X.K c f sp ta) := by
  refine ⟨fun pins s σ H Q I h => ?_⟩
  refine attr_of hb (thn (he.run pins s σ H _ I h) fun w s1 ⟨x, H1, I1, rx, q⟩ => ?_)
  cases x <;> try exact q.elim
  cases rx
  obtain ⟨⟨dx, fs, ea, l⟩, q⟩ := q
  obtain ⟨mA, O, _, _, _, _⟩ := ins_get I1.hok ea
  obtain ⟨od, J, _⟩ := O.look
  obtain ⟨rest, hrec⟩ := pf.rc
  have I2 := I1.tok (s1.toks + 1)
  have hcl : (PySem.W.clsIn X.K (He.ga X.K c)).isSome = true := by
    obtain ⟨cd, h2, _⟩ := PySem.W.any_some hc.hd
    rw [h2]
    rfl
  refine PySem.W.get_bind I1.kIn J (PySem.W.plainGet_of (hc.get f)).1 (PySem.W.findObj_data hcl pf.at_ pf.get pf.tk) (PySem.W.plainGet_of (hc.get f)).2 (wpAny_call (PySem.W.prop_get (s := { s1 with toks := s1.toks + 1 }) I1.kIn hrec ?_))
  refine codeAny_mono (F X.A.in1 X.stack { s1 with toks := s1.toks + 1 } H1 [.ref _] [.ref _] Q E0 hr.in1 I2.env0.in1 (.cons rfl .nil) q) fun r s' hq => ?_
  cases r with
  | error er =>
    obtain ⟨_, _, _, _, _, _, _, _, _, _, _, _, z⟩ := hq
    exact z.elim
  | ok fl =>
    cases fl with
    | ret u =>
      obtain ⟨v, H', I3, rv, q3⟩ := I2.after hq
      exact wpAny_of_eq (PySem.W.handedOut_of (handed_of rv)) ⟨v, H', I3, rv, q3⟩
    | next => exact False.elim hq
    | brk => exact False.elim hq
    | cont => exact False.elim hq
end
/-! ### calls with keywords -/
structure FK (P : Program) (w : World) (K : Frag) (mg : Str → Option Value) (base : Heap) (k : Nat) (f : Addr) (n : Nat) (ks : List Str) (sp : Sp) (gV : List V → List V → List V) : Prop where
  ex : ∃ (fd : FuncData) (ps : List Str) (g : List Value → List Value → List Value), FnOk P w K mg base (L2.CX P w) k f fd ps sp ∧ KBn K fd ps n ks g gV
theorem mk_fnK {P : Program} {w : World} {K : Frag} {mg : Str → Option Value} {base : Heap} {x qual : Str} {params : Arguments} {body : List Stmt} {scope : Scope} {f : Addr} {fd : FuncData} {N ps ks : List Str} {k n : Nat} {sp : Sp} {dvs : List V} {kws : List (Str × V)} {gV : List V → List V → List V} (F : FunD K x qual params body scope dvs kws f fd) (S : FnScope N ps scope)
    (len : ∀ vs H Q E, sp vs H Q E → vs.length = ps.length) (hb : ∃ g, KBn K fd ps n ks g gV) {t : XK → TS}
    (hbody : ∀ (cdv : Value) (A : Around) (outer : List Env) (s : Shared) (H : Hp) (E : XK), Room k (A.deeper (envOfC qual scope s.heap.objs.size f cdv)) →
      PSs (cxD P w K mg base N qual scope f cdv A outer s H E) body (t E))
    (pure : ∀ vs H Q E, sp vs H Q E → t E { nx := fun _ H' => Q .non H', rt := Q } (start N vs) H) : FK P w K mg base (k + 1) f n ks sp gV := by
  obtain ⟨g, hb⟩ := hb
  exact ⟨fd, ps, g, FunD.ok (P := P) (w := w) (mg := mg) (base := base) (CX := L2.CX P w) (sp := sp) F S len fun cdv A outer s H vs Q E hr h => ⟨t E, hbody cdv A outer s H E hr, pure vs H Q E h⟩, hb⟩
def dMethDK (K : Frag) (c mt : Str) (n m : Nat) (sp : Sp) (gV : List V → List V → List V) (E : L2.St → XK) (ta : TE) (t tk : TA) : TE := fun σ H Q => ta σ H fun x H1 => match x with
  | .ref a => IsD K H1 c mt a (t σ H1 fun vs H2 => tk σ H2 fun zs H3 => vs.length + 1 = n ∧ zs.length = m ∧ sp (gV (.ref a :: vs) zs) H3 Q (E σ))
  | _ => False
section
variable {X : Cx} {k n : Nat} {f g : Addr} {ks : List Str} {sp : Sp} {E : L2.St → XK} {x c m : Str} {p pos apos : Pos} {e o : Expr} {es : List Expr} {kws : List Keyword} {t tk : TA} {ta : TE} {gV : List V → List V → List V}
theorem run_FK {pins : List (Addr × Obj)} {σ : L2.St} {H : Hp} {s : Shared} {Q : VK} {us ws : List Value} {vs zs : List V} (F : FK X.prog X.w X.K X.mg X.base k f n ks sp gV) (hr : Room k X.A) (hx : PassesAt (L2.CX X.prog X.w) X σ (E σ))
    (I : Inv X pins σ H s) (r : Vals vs us) (rz : Vals zs ws) (l1 : vs.length = n) (l2 : zs.length = ks.length) (h : sp (gV vs zs) H Q (E σ)) : wpAny (model X.prog X.w) X.A (call (.ref f) us (ks.zip ws)) (EP X pins σ Q) X.xe s := by
  obtain ⟨fd, ps, gg, F, hb⟩ := F.ex
  have r2 := hb.rel r rz
  refine wpAny_call (codeAny_mono (F.run X.A X.stack s H ⟨us, ks.zip ws⟩ (gg us ws) (gV vs zs) Q (E σ) hr I.env0 (hb.to s us ws I.kIn (r.length.symm.trans l1) (rz.length.symm.trans l2)) r2 h) fun r s' hq => ?_)
  cases r with
  | error e => exact hx pins H s e s' I hq
  | ok fl =>
    cases fl with
    | ret u => exact I.after hq
    | next => exact False.elim hq
    | brk => exact False.elim hq
    | cont => exact False.elim hq
/-- o.m(e, .., k = v, ..), o an instance with a dict -/
theorem pe_methDK {pl : Sem Bool} (hc : Cls X.K (He.ga X.K c)) (hm : Meth X.K (He.ga X.K c) m g) (F : FK X.prog X.w X.K X.mg X.base k g n ks sp gV) (hr : Room k X.A) (hx : ∀ σ, PassesAt (L2.CX X.prog X.w) X σ (E σ)) (he : PE X o ta) (ha : PA X (e :: es) t) (hkw : PK X kws tk)
    (hall : (backToKw pos (keywordEach kws X.env)).all (·.1.isSome) = true := by rfl) (hks : (backToKw pos (keywordEach kws X.env)).filterMap (·.1) = ks := by rfl)
    (hst : starEach (e :: es) X.env = (false, eval e X.env) :: starEach es X.env := by rfl) (hpl : ((backTo pos (starEach (e :: es) X.env)).any (·.1) || (backToKw pos (keywordEach kws X.env)).any (·.1.isNone)) = false := by rfl)
    (ht : eval (.Call (.Attribute o m apos) (e :: es) kws pos) X.env = (do
      let ov ← eval o X.env
      standAt apos.atName
      let (f, first) ← holding [ov] (getMethod ov m pl)
      callWith pos f first (backTo pos (starEach (e :: es) X.env)) (backToKw pos (keywordEach kws X.env))) := by rfl) :
    PE X (.Call (.Attribute o m apos) (e :: es) kws pos) (dMethDK X.K c m n ks.length sp gV E ta t tk) := by
  refine ⟨fun pins s σ H Q I h => ?_⟩
  refine PySem.W.methodCall_KW (pl := pl) (thn (he.run pins s σ H _ I h) fun u s1 ⟨x, H1, I1, rx, q⟩ => ?_) ht
  cases x <;> try exact q.elim
  cases rx
  obtain ⟨⟨dx, fs, ea, l⟩, q⟩ := q
  refine getmeth_ok I1 ea hc hm l ?_
  refine PySem.W.callWith_KW (first := [.ref _]) (h₀ := X.base) I.ok.mod.kin hm.kp hall (thn (ha.run pos pins s1 σ H1 _ I1 q) fun us s2 ⟨vs, H2, I2, r, q2⟩ => ?_) hpl hst
  refine thn (hkw.run pos pins s2 σ H2 _ I2 q2) fun ws s3 ⟨zs, H3, I3, rz, l1, l2, q3⟩ => ⟨I3.kIn, ?_⟩
  rw [hks]
  exact run_FK (us := .ref _ :: us) (vs := .ref _ :: vs) F hr (hx σ) I3 (.cons rfl r) rz (by rw [List.length_cons]; exact l1) l2 q3
end
end S
namespace S
open PySem PySem.Spec PyProof.Rows L2
/-! ### sum(a list of numbers) -/
structure SumL (K : Frag) (H : Hp) (a : Addr) (k : Int → Prop) : Prop where
  ex : ∃ ns : List Int, SqL K H a (ns.map V.int) ∧ k ns.sum
theorem SumL.of {K : Frag} {H : Hp} {a : Addr} {k : Int → Prop} {ns : List Int} (h : H a = some (.lst (ns.map V.int))) (q : k ns.sum) : SumL K H a k := ⟨ns, SqL.of h, q⟩
def cSum (K : Frag) : List V → Hp → VK → Prop := fun xs H Q => match xs with
  | [.ref a] => SumL K H a fun i => Q (.int i) H
  | _ => False
theorem c_sum {X : Cx} (hc : X.calm = true) : CallR X (.builtin "sum") (cSum X.K) := CallR.of (cr_sum hc) fun xs H Q q => by
  match xs, q with
  | [.ref a], ⟨⟨ns, h, q⟩⟩ => exact ⟨a, ns, rfl, h, q⟩
end S
namespace S
open PySem PySem.Spec PyProof.Rows L2
/-! ### x == y of an instance ahead with its own def and anything behind -/
section
variable {X : Cx} {k : Nat} {g : Addr} {sp : Sp} {E : XK} {c : Str}
end
end S
namespace S
open PySem PySem.Spec PyProof.Rows L2
/-! ### == of tuples of instances: what one address means is known in the run -/
section
variable {X : Cx} {k : Nat} {g : Addr} {sp : Sp} {E : XK} {c : Str}
end
end S
namespace S
open PySem PySem.Spec PyProof.Rows L2 GenW
section
variable {prog : Program} {w : World} {A : Around} {R : GenEnd} {Y : Protocol} {n : Nat} {s₀ : Shared} {fs : List Frame} {s : Shared} {env : Env}
theorem seg_forLoop {target : Expr} {it : Value} {body : List Stmt}
    (h : wpAny (model prog w) (A.over (.forLoop target it body [] env) fs) (pyNext it) (fun r s' => match r with
      | none => Seg (model prog w) A R Y n s₀ (.block [] env) ((model prog w).den (.block [] env)) fs s'
      | some v => wpAny (model prog w) (A.over (.forLoop target it body [] env) fs) (letOwnedTupleGo target it v) (fun _ s1 => wpAny (model prog w) (A.over (.forLoop target it body [] env) fs) (assign target env v) (fun _ s2 =>
          Seg (model prog w) A R Y n s₀ (.forLoop target it body [] env) ((execs body env).wrap (fun f => match f with
            | .next | .cont => .pure (.again (.forLoop target it body [] env))
            | .brk => .pure (.done .next)
            | .ret v => .pure (.done (.ret v))) (fun e => (do noteFrame e env; theTreesLotGoes e : Sem Unit).wrap (fun _ => .raise e) .raise id id) id id) fs s2)
        (fun x s' => Seg (model prog w) A R Y n s₀ (.forLoop target it body [] env) ((do noteFrame x env; theTreesLotGoes x : Sem Unit).wrap (fun _ => .raise x) .raise id id) fs s') s1)
        (fun x s' => Seg (model prog w) A R Y n s₀ (.forLoop target it body [] env) ((do noteFrame x env; theTreesLotGoes x : Sem Unit).wrap (fun _ => .raise x) .raise id id) fs s') s')
      (fun x s' => Seg (model prog w) A R Y n s₀ (.forLoop target it body [] env) ((do noteFrame x env; theTreesLotGoes x : Sem Unit).wrap (fun _ => .raise x) .raise id id) fs s') s) :
    Seg (model prog w) A R Y n s₀ (.forLoop target it body [] env) ((model prog w).den (.forLoop target it body [] env)) fs s := by
  show Seg _ A R Y n s₀ _ ((forTurn target it body [] env).onRaise (fun x => do noteFrame x env; theTreesLotGoes x)) fs s
  have hx' : ∀ (x : Value) (s' : Shared), Seg (model prog w) A R Y n s₀ (.forLoop target it body [] env) ((do noteFrame x env; theTreesLotGoes x : Sem Unit).wrap (fun _ => .raise x) .raise id id) fs s' → Seg (model prog w) A R Y n s₀ (.forLoop target it body [] env) ((do noteFrame x env; theTreesLotGoes x : Sem Unit).bind fun _ => .raise x) fs s' := fun x s' hx => by
    rw [Sem.bind_eq_wrap]; exact hx
  unfold forTurn
  rw [Sem.onRaise_eq_wrap]
  refine seg_bind_wrap (wpAny_standAt ?_)
  refine seg_bind_wrap (wpAny_onRaise (wpAny_mono h (fun r s' hr => ?_) fun x s' hx => wpAny_standAt (hx' x s' hx)))
  cases r with
  | none => exact seg_again rfl hr
  | some v =>
    refine seg_bind_wrap (wpAny_mono hr (fun _ s1 h1 => ?_) fun x s' hx => hx' x s' hx)
    refine seg_bind_wrap (wpAny_mono h1 (fun _ s2 h2 => ?_) fun x s' hx => hx' x s' hx)
    rw [Sem.bind_eq_wrap', Sem.wrap_wrap]
    rw [Sem.wrap_congr (execs body env) _ _ (K' := fun f => match f with
            | .next | .cont => .pure (.again (.forLoop target it body [] env))
            | .brk => .pure (.done .next)
            | .ret v => .pure (.done (.ret v))) (H' := (fun e => (do noteFrame e env; theTreesLotGoes e : Sem Unit).wrap (fun _ => .raise e) .raise id id))
        (fun f => by cases f <;> rfl)
        (fun e => by first | exact Sem.bind_eq_wrap _ _ | (show (do noteFrame e env; theTreesLotGoes e : Sem Unit).bind (fun _ => .raise e) = _; rw [Sem.bind_eq_wrap]))]
    exact h2
theorem seg_block0 (h : Seg (model prog w) A R Y n s₀ (.block [] env) (.pure (.done .next)) fs s) : Seg (model prog w) A R Y n s₀ (.block [] env) ((model prog w).den (.block [] env)) fs s := h
end
section
variable {X : Cx}
end
end S
namespace S
open PySem PySem.Spec PyProof.Rows L2 GenW
/-- named rests of a generator's body -/
def gstop (t : TGn) : TGn := fun D ys σ H => Stop (fun _ σ H => t D ys σ H) { nx := fun _ _ => True, rt := fun _ _ => True } σ H
def tGIf (c : TT) (t u : TGn) : TGn := fun D ys σ H => c σ H fun b H1 => bIf b (t D ys σ H1) (u D ys σ H1)
section
variable {P : Program} {w : World} {K : Frag} {mg : Str → Option Value} {base : Heap} {x qual : Str} {params : Arguments} {body : List Stmt} {scope : Scope} {dvs : List V} {kws : List (Str × V)} {f : Addr} {fd : FuncData}
end
/-! ### generators as values -/
section
variable {X : Cx} {k n : Nat} {f g : Addr} {sp : SpG} {x c m : Str} {p pos pos' apos : Pos} {e o : Expr} {es : List Expr} {t tk : TA} {ta : TE} {gV : List V → List V → List V} {ks : List Str} {kws : List Keyword}
end
end S
namespace S
open PySem PySem.Spec PyProof.Rows L2
def GLoopR (D : GEnds) (ys : List V) (g : TG) (tb : TGn) (σ : L2.St) : It → Hp → Prop := fun J H1 => ∃ W : Nat → Nat → List V → L2.St → Hp → Prop, (∃ m, W 0 m ys σ H1) ∧ ∀ i m ys σ H, W i m ys σ H →
  (J.stop i H ∧ D.nx ys σ H) ∨ (J.go i H ∧ ∃ N : List V → L2.St → Hp → Prop, (∀ ys' σ' H', N ys' σ' H' → ∃ m', m' < m ∧ W (i + 1) m' ys' σ' H') ∧ ∀ x H', J.yld i H x H' → g x σ H' fun σ2 H2 => tb { D with nx := N, ct := N, bk := D.nx } ys σ2 H2)
def dGFor (wi : TI) (g : TG) (tb : TGn) : TGn := fun D ys σ H => wi σ H (GLoopR D ys g tb σ)
section
variable {K : Frag} {a b : Addr} {xs zs : List V} {g : TG} {tb : TGn} {D : GEnds} {ys : List V} {σ : L2.St} {H : Hp}
theorem gfor_list (Pv : Nat → List V → L2.St → Hp → Prop) (h0 : Pv 0 ys σ H) (hl : ∀ i ys σ H, i ≤ xs.length → Pv i ys σ H → SqL K H a xs)
    (hs : ∀ i x ys σ H, xs[i]? = some x → Pv i ys σ H → g x σ H fun σ2 H2 => tb { D with nx := Pv (i + 1), ct := Pv (i + 1), bk := D.nx } ys σ2 H2) (hd : ∀ ys σ H, Pv xs.length ys σ H → D.nx ys σ H) : GLoopR D ys g tb σ (Itl K a) H := by
  refine ⟨fun i m ys σ H => m = xs.length - i ∧ i ≤ xs.length ∧ Pv i ys σ H, ⟨xs.length, by simp, Nat.zero_le _, h0⟩, ?_⟩
  rintro i m ys σ H ⟨rfl, hi, p⟩
  have q := hl i ys σ H hi p
  by_cases hlt : i < xs.length
  · refine .inr ⟨⟨xs, xs[i], q, by simp [hlt]⟩, Pv (i + 1), fun ys' σ' H' p' => ⟨xs.length - (i + 1), by omega, rfl, hlt, p'⟩, fun x H' y => ?_⟩
    obtain ⟨e, y⟩ := y
    subst e
    exact hs i x ys σ _ (y xs q) p
  · have e : i = xs.length := by omega
    subst e
    exact .inl ⟨⟨xs, q, Nat.le_refl _⟩, hd ys σ H p⟩
theorem gfor_tup (Pv : Nat → List V → L2.St → Hp → Prop) (h0 : Pv 0 ys σ H) (hl : ∀ i ys σ H, i ≤ xs.length → Pv i ys σ H → SqT K H a xs)
    (hs : ∀ i x ys σ H, xs[i]? = some x → Pv i ys σ H → g x σ H fun σ2 H2 => tb { D with nx := Pv (i + 1), ct := Pv (i + 1), bk := D.nx } ys σ2 H2) (hd : ∀ ys σ H, Pv xs.length ys σ H → D.nx ys σ H) : GLoopR D ys g tb σ (Itt K a) H := by
  refine ⟨fun i m ys σ H => m = xs.length - i ∧ i ≤ xs.length ∧ Pv i ys σ H, ⟨xs.length, by simp, Nat.zero_le _, h0⟩, ?_⟩
  rintro i m ys σ H ⟨rfl, hi, p⟩
  have q := hl i ys σ H hi p
  by_cases hlt : i < xs.length
  · refine .inr ⟨⟨xs, xs[i], q, by simp [hlt]⟩, Pv (i + 1), fun ys' σ' H' p' => ⟨xs.length - (i + 1), by omega, rfl, hlt, p'⟩, fun x H' y => ?_⟩
    obtain ⟨e, y⟩ := y
    subst e
    exact hs i x ys σ _ (y xs q) p
  · have e : i = xs.length := by omega
    subst e
    exact .inl ⟨⟨xs, q, Nat.le_refl _⟩, hd ys σ H p⟩
theorem gfor_seq (Pv : Nat → List V → L2.St → Hp → Prop) (hx : SqA K H a xs) (h0 : Pv 0 ys σ H) (hl : ∀ i ys σ H', i ≤ xs.length → Pv i ys σ H' → Stay K a H H')
    (hs : ∀ i x ys σ H, xs[i]? = some x → Pv i ys σ H → g x σ H fun σ2 H2 => tb { D with nx := Pv (i + 1), ct := Pv (i + 1), bk := D.nx } ys σ2 H2) (hd : ∀ ys σ H, Pv xs.length ys σ H → D.nx ys σ H) : Walk K H a (GLoopR D ys g tb σ) := by
  rcases hx with hx | hx
  · exact ⟨.inl ⟨⟨xs, hx⟩, gfor_list Pv h0 (fun i ys σ H' hi q => (hl i ys σ H' hi q xs).1 hx) hs hd⟩⟩
  · exact ⟨.inr ⟨⟨xs, hx⟩, gfor_tup Pv h0 (fun i ys σ H' hi q => (hl i ys σ H' hi q xs).2 hx) hs hd⟩⟩
end
/-! ### a < b < c < d as a test -/
def dChain3T (r r' r'' : R2) (ta tb tc td : TE) : TT := fun σ H Q => ta σ H fun x H1 => tb σ H1 fun y H2 => r x y H2 (isB fun k H3 => bIf k (tc σ H3 fun z H4 => r' y z H4 (isB fun k2 H5 => bIf k2 (td σ H5 fun w' H6 => r'' z w' H6 (isB Q)) (Q false H5))) (Q false H3))
theorem pt_chain3 {X : Cx} {op op' op'' : CmpOp} {a b c d : Expr} {r r' r'' : R2} {ta tb tc td : TE} {pos : Pos} (ho : OpR X (compareOp op) r) (ho' : OpR X (compareOp op') r') (ho'' : OpR X (compareOp op'') r'') (ha : PE X a ta) (hb : PE X b tb) (hc : PE X c tc) (hd : PE X d td)
    (hm : lastMarks [op, op', op''] [b, c, d] = false := by with_unfolding_all rfl) : PT X (.Compare a [op, op', op''] [b, c, d] pos) (dChain3T r r' r'' ta tb tc td) := by
  refine ⟨fun pins s σ H Q I h => ?_⟩
  refine isTrue_chain (thn (ha.run pins s σ H _ I h) fun v s1 ⟨x, H1, I1, r1, q1⟩ => test_link (thn (hb.run pins s1 σ H1 _ I1 q1) fun u s2 ⟨y, H2, I2, r2, q2⟩ =>
    thn (ho pins s2 σ H2 x y v u _ I2 r1 r2 q2) fun d s3 ⟨z, H3, I3, r3, q3⟩ => ?_)) hm
  obtain ⟨k, e, q3⟩ := isB_ex q3
  subst e
  cases r3
  refine wpAny_truthy_bool ?_
  cases k with
  | false => exact ite_ff ⟨H3, I3, q3⟩
  | true =>
    refine ite_tt (test_link (thn (hc.run pins s3 σ H3 _ I3 q3) fun w' s4 ⟨z', H4, I4, r4, q4⟩ => thn (ho' pins s4 σ H4 y z' u w' _ I4 r2 r4 q4) fun d' s5 ⟨z2, H5, I5, r5, q5⟩ => ?_))
    obtain ⟨k2, e2, q5⟩ := isB_ex q5
    subst e2
    cases r5
    refine wpAny_truthy_bool ?_
    cases k2 with
    | false => exact ite_ff ⟨H5, I5, q5⟩
    | true =>
      refine ite_tt (test_last (thn (hd.run pins s5 σ H5 _ I5 q5) fun w2 s6 ⟨z6, H6, I6, r6, q6⟩ => thn (ho'' pins s6 σ H6 z' z6 w' w2 _ I6 r4 r6 q6) fun d2 s7 ⟨z7, H7, I7, r7, q7⟩ => ?_))
      obtain ⟨k3, e3, q7⟩ := isB_ex q7
      subst e3
      cases r7
      exact wpAny_truthy_bool ⟨H7, I7, q7⟩
end S
namespace S
open PySem PySem.Spec PyProof.Rows L2
/-! ### set(a list of numbers) -/
section
variable {P : Program} {w : World} {A : Around} {E : Value → Shared → Prop} {s : Shared}
end
section
variable {X : Cx}
end
end S
namespace S
open PySem PySem.Spec PyProof.Rows L2
end S
namespace S
open PySem PySem.Spec PyProof.Rows L2
section
variable {X : Cx} {k n : Nat} {f : Addr} {sp : SpG} {x : Str} {p pos : Pos} {e : Expr} {es : List Expr} {t tk : TA} {gV : List V → List V → List V} {ks : List Str} {kws : List Keyword}
end
end S
namespace S
open PySem PySem.Spec PyProof.Rows L2 GenW
/-! ### a heap's beginning as the ground of a run -/
def cut0 (h : Heap) (n : Nat) : Heap := { h with objs := h.objs.extract 0 n }
theorem cut0_ix {h : Heap} {n b : Nat} : (cut0 h n).objs[b]? = if b < n then h.objs[b]? else none := by
  unfold cut0
  simp only [Array.getElem?_extract]
  by_cases hb : b < n
  · rw [if_pos hb]
    by_cases h2 : b < h.objs.size
    · rw [if_pos (by omega), Nat.zero_add]
    · rw [if_neg (by omega)]
      exact (Array.getElem?_eq_none (by omega)).symm
  · rw [if_neg hb, if_neg (by omega)]
theorem cut0_get {h : Heap} {n b : Nat} {o : Obj} (e : (cut0 h n).get? b = some o) : b < n ∧ h.get? b = some o := by
  have ix := cut0_ix (h := h) (n := n) (b := b)
  unfold Heap.get? at e ⊢
  rw [ix] at e
  by_cases hb : b < n
  · rw [if_pos hb] at e
    exact ⟨hb, e⟩
  · rw [if_neg hb] at e
    cases e
theorem cut0_at {h : Heap} {n b : Nat} {o : Obj} (hb : b < n) (e : h.get? b = some o) : (cut0 h n).get? b = some o := by
  have ix := cut0_ix (h := h) (n := n) (b := b)
  unfold Heap.get? at e ⊢
  rw [ix, if_pos hb]
  exact e
theorem cut0_size {h : Heap} {n : Nat} : (cut0 h n).objs.size = min n h.objs.size := by
  unfold cut0
  simp
theorem cut0_funs {h base : Heap} {n : Nat} : ∀ {l : List Env}, h.FunFrames base l → (∀ b ∈ frs l, b < n) → (cut0 h n).FunFrames base l
  | [], _, _ => trivial
  | env :: rest, ⟨hk, ⟨L, o, e1, e2, e3, e4⟩, hr⟩, hb => by
    refine ⟨hk, ⟨L, o, e1, e2, cut0_at (hb L ?_) e3, e4⟩, cut0_funs hr fun b q => hb b ?_⟩
    · unfold frs
      rw [List.filterMap_cons, e1]
      exact List.mem_cons_self
    · unfold frs at q ⊢
      rw [List.filterMap_cons, e1]
      exact List.mem_cons_of_mem _ q
/-- the context over another ground -/
def rebC (X : Cx) (b : Shared × Hp) : Cx := { X with s_0 := { b.1 with heap := cut0 b.1.heap X.s_0.heap.objs.size }, H_0 := b.2 }
/-- the untracked objects stay -/
theorem un_cut {fs ex : List Addr} {H : Hp} {h : Heap} {n : Nat} : Un fs ex H H (cut0 h n) h where
  keep := fun _ _ e _ _ _ => (cut0_get e).2
  slot := fun _ o e _ _ _ => ⟨o.slots, (cut0_get e).2⟩
  free := fun _ _ _ q _ => q
  there := fun _ o e _ => ⟨o, (cut0_get e).2⟩
  tups := fun _ _ q => q
  frzs := fun _ _ _ q => q
  tbls := fun _ ps q => ⟨#[], by rw [q]; simp⟩
/-- what is known of a state in which a sleeping generator is woken -/
structure Wok (X : Cx) (gp : List (Addr × Obj)) (s : Shared) (H : Hp) : Prop where
  bare : AllBare s.gens
  bs : ∀ b o, X.base.get? b = some o → s.heap.get? b = some o ∧ H b = none
  bsz : X.base.objs.size ≤ s.heap.objs.size
  funs : s.heap.FunFrames X.base X.outer
  frf : ∀ b ∈ X.fs, H b = none
  hok : HOk X.prog X.w H s.heap
  gp : ∀ p ∈ gp, s.heap.get? p.1 = some p.2 ∧ H p.1 = none
section
variable {X : Cx} {pins : List (Addr × Obj)} {σ : L2.St} {H H' : Hp} {s s' : Shared} {b : Shared × Hp} {oL : Obj}
/-- over the ground where it stands -/
theorem inv_reb (I : Inv X pins σ H s) : Inv (rebC X (s, H)) pins σ H s := by
  have fr : ∀ q ∈ X.fs, q < X.s_0.heap.objs.size := fun q hq => by
    obtain ⟨_, o, ho, _⟩ := I.ok.funs.mem hq
    exact Heap.lt_size ho
  have hfs : ∀ q ∈ X.fs, H q = none := fun q hq => by
    obtain ⟨_, o, ho, _⟩ := I.ok.funs.mem hq
    exact I.base.free q o ho (I.ok.frf q hq) fun z => I.ok.exfs q z hq
  have sz : (cut0 s.heap X.s_0.heap.objs.size).objs.size = X.s_0.heap.objs.size := by
    rw [cut0_size]
    exact Nat.min_eq_left I.sz
  refine ⟨⟨I.ok.mod, I.ok.kind, I.ok.glob, I.ok.blt, ?_, I.ok.inj, I.ok.has, fun x c h1 h2 => ?_, I.ok.hd, I.ok.frames, I.ok.stk, I.ok.exf, fun q o e => ?_, ?_, I.ok.noex, I.ok.exfs, cut0_funs I.funs fr, hfs⟩, rfl, I.bare, un_cut, I.loc, I.cell, I.free, I.freeC, I.pin, I.hok, I.len⟩
  · show (cut0 s.heap _).objs.size ≤ _
    rw [sz]; exact I.ok.above
  · show (cut0 s.heap _).objs.size ≤ _
    rw [sz]; exact I.ok.cab x c h1 h2
  · obtain ⟨e1, e2⟩ := I.bs q o e
    exact ⟨cut0_at (Nat.lt_of_lt_of_le (Heap.lt_size e) I.ok.bsz) e1, e2⟩
  · show _ ≤ (cut0 s.heap _).objs.size
    rw [sz]; exact I.ok.bsz
/-- woken: what is its own stands as it stood -/
theorem inv_wake (I : Inv (rebC X b) pins σ H s) (hnl : X.s_0.heap.objs.size ≤ X.env.locals) (hbz : X.base.objs.size ≤ X.s_0.heap.objs.size) (hfr : ∀ q ∈ X.fs, q < X.s_0.heap.objs.size) (hc : ∀ x, X.env.cells.lookup x = none) (hL : s.heap.get? X.env.locals = some oL)
    (w : Wok X ((X.env.locals, oL) :: (X.pn ++ pins)) s' H') : Inv (rebC X (s', H')) pins σ H' s' := by
  obtain ⟨w1, w2⟩ := w.gp (X.env.locals, oL) List.mem_cons_self
  have lt : X.env.locals < s'.heap.objs.size := Heap.lt_size w1
  have sz : (cut0 s'.heap X.s_0.heap.objs.size).objs.size = X.s_0.heap.objs.size := by
    rw [cut0_size]
    exact Nat.min_eq_left (Nat.le_trans hnl (Nat.le_of_lt lt))
  refine ⟨⟨I.ok.mod, I.ok.kind, I.ok.glob, I.ok.blt, ?_, I.ok.inj, I.ok.has, fun x c _ h2 => ?_, I.ok.hd, I.ok.frames, I.ok.stk, I.ok.exf, fun q o e => ?_, ?_, I.ok.noex, I.ok.exfs, cut0_funs w.funs hfr, w.frf⟩, rfl, w.bare, un_cut, ?_, fun x c h => ?_, w2, fun x c h => ?_, fun p hp => ?_, w.hok, I.len⟩
  · show (cut0 s'.heap _).objs.size ≤ _
    rw [sz]; exact hnl
  · have h2 : X.env.cells.lookup x = some c := h2
    rw [hc x] at h2; cases h2
  · obtain ⟨e1, e2⟩ := w.bs q o e
    exact ⟨cut0_at (Nat.lt_of_lt_of_le (Heap.lt_size e) hbz) e1, e2⟩
  · show _ ≤ (cut0 s'.heap _).objs.size
    rw [sz]; exact hbz
  · obtain ⟨m, hn, hl⟩ := I.loc
    obtain ⟨o, es, ep, ho, hr⟩ := hn
    have ho' : s.heap.get? X.env.locals = some o := ho
    rw [hL] at ho'
    cases ho'
    refine ⟨m, ⟨oL, es, ep, w1, hr⟩, fun i x v h1 h2 h3 => ?_⟩
    obtain ⟨u, r, l⟩ := hl i x v h1 h2 h3
    refine ⟨u, r, l.imp (fun z => z) fun z => ?_⟩
    obtain ⟨_, c, e, _⟩ := z
    have e : X.env.cells.lookup x = some c := e
    rw [hc x] at e; cases e
  · have h : X.env.cells.lookup x = some c := h
    rw [hc x] at h; cases h
  · have h : X.env.cells.lookup x = some c := h
    rw [hc x] at h; cases h
  · obtain ⟨_, _, k3, k4, k5⟩ := I.pin p hp
    obtain ⟨g1, g2⟩ := w.gp p (List.mem_cons_of_mem _ hp)
    exact ⟨g1, g2, k3, k4, k5⟩
end

/-! ### a generator's body whose yields are the consumer's turns -/
abbrev TurnK := List V → V → Hp → (Hp → Prop) → Prop
abbrev WakeZ := List V → Shared → Hp → Prop
/-- the state in which the generator was woken -/
structure Gnd (X : Cx) (Z : WakeZ) (ys : List V) (s : Shared) (H : Hp) : Prop where
  z : Z ys s H
  sz : X.s_0.heap.objs.size ≤ s.heap.objs.size
/-- what a generator's body may count on -/
structure Alone (X : Cx) : Prop where
  nox : ∀ e s, X.xe e s → False
  nl : X.s_0.heap.objs.size ≤ X.env.locals
  bz : X.base.objs.size ≤ X.s_0.heap.objs.size
  fr : ∀ q ∈ X.fs, q < X.s_0.heap.objs.size
  nc : ∀ x, X.env.cells.lookup x = none
def GYf (X : Cx) (Z : WakeZ) (Kc : TurnK) : Protocol := fun n s₀ v s kap =>
  ∃ ys x ip σ H0 H oL post, n + 1 + ys.length = sizeLine ∧ RelV x v ∧ Gnd X Z ys s₀ H0 ∧ Inv (rebC X (s₀, H0)) ip σ H s ∧ s.heap.get? X.env.locals = some oL ∧ Kc ys x H post ∧
    ∀ s' H', Wok X ((X.env.locals, oL) :: (X.pn ++ ip)) s' H' → Z (ys ++ [x]) s' H' → post H' → kap (.send .none) s'
def GRf (X : Cx) (Z : WakeZ) (Q : List V → VK) : GenEnd := fun n s₀ r s => match r with
  | .ok (.ret u) => ∃ ys v ip σ H0 H, n + ys.length = sizeLine ∧ Gnd X Z ys s₀ H0 ∧ Inv (rebC X (s₀, H0)) ip σ H s ∧ RelV v u ∧ Q ys v H
  | _ => False
def GPf (X : Cx) (Z : WakeZ) (ip : List (Addr × Obj)) (D : GEnds) (ys : List V) (s₀ : Shared) (f : Flow) (s : Shared) : Prop := ∃ H0, Gnd X Z ys s₀ H0 ∧ SP (rebC X (s₀, H0)) ip (D.at ys) f s
structure GCf (X : Cx) (A : Around) (c : Code) (fs : List Frame) (gd : Bool → Bool) : Prop where
  over : A.over c fs = X.A
  split : splitAtGen fs = none
  guard : fs.any Frame.guarded = false
  gd : gd false = false
def GKf (X : Cx) (Z : WakeZ) (Kc : TurnK) (ip : List (Addr × Obj)) (A : Around) (R : GenEnd) (c : Code) (fs : List Frame) (K : Flow → Sem PySem.Fin) (D : GEnds) : Prop :=
  ∀ (n : Nat) (ys : List V) (s₀ s : Shared) (f : Flow), n + ys.length = sizeLine → GPf X Z ip D ys s₀ f s → Seg (model X.prog X.w) A R (GYf X Z Kc) n s₀ c (K f) fs s
def GRun (X : Cx) (Z : WakeZ) (Kc : TurnK) (m : Sem Flow) (t : TGn) : Prop :=
  ∀ (A : Around) (ip : List (Addr × Obj)) (R : GenEnd) (n : Nat) (ys : List V) (s₀ : Shared) (H0 : Hp) (c : Code) (fs : List Frame) (K : Flow → Sem PySem.Fin) (J : Value → Sem PySem.Fin) (gd : Bool → Bool) (lv : List Value → List Value) (s : Shared) (σ : L2.St) (H : Hp) (D : GEnds),
    GCf X A c fs gd → n + ys.length = sizeLine → Gnd X Z ys s₀ H0 → GKf X Z Kc ip A R c fs K D → Inv (rebC X (s₀, H0)) ip σ H s → t D ys σ H → Seg (model X.prog X.w) A R (GYf X Z Kc) n s₀ c (m.wrap K J gd lv) fs s
structure GSf (X : Cx) (Z : WakeZ) (Kc : TurnK) (st : Stmt) (t : TGn) : Prop where
  run : GRun X Z Kc (exec st X.env) t
structure GSsf (X : Cx) (Z : WakeZ) (Kc : TurnK) (st : List Stmt) (t : TGn) : Prop where
  run : GRun X Z Kc (execs st X.env) t
section
variable {X : Cx} {Z : WakeZ} {Kc : TurnK} {st : Stmt} {rest : List Stmt}
theorem gsf_ps {t : TS} (al : Alone X) (h : ∀ b, PS (rebC X b) st t) : GSf X Z Kc st (tPlain t) := by
  refine ⟨fun A ip R n ys s₀ H0 c fs K J gd lv s σ H D g hn hz k I ht => ?_⟩
  refine seg_wrap ?_
  rw [g.over]
  exact wpAny_mono ((h (s₀, H0)).run ip s σ H (D.at ys) I ht) (fun f s' hs => k n ys s₀ s' f hn ⟨H0, hz, hs⟩) fun x s' hx => (al.nox x s' hx).elim
theorem gssf_nil : GSsf X Z Kc [] tG0 := by
  refine ⟨fun A ip R n ys s₀ H0 c fs K J gd lv s σ H D g hn hz k I ht => ?_⟩
  exact seg_execs_nil (k n ys s₀ s .next hn ⟨H0, hz, σ, H, I, ht⟩)
theorem gssf_cons {t u : TGn} (a : GSf X Z Kc st t) (b : GSsf X Z Kc rest u) : GSsf X Z Kc (st :: rest) (tGThen t u) := by
  refine ⟨fun A ip R n ys s₀ H0 c fs K J gd lv s σ H D g hn hz k I ht => ?_⟩
  refine seg_execs_cons (a.run A ip R n ys s₀ H0 c fs _ J gd lv s σ H { D with nx := fun ys' σ' H' => u D ys' σ' H' } g hn hz (fun n' ys' s₀' s' f hn' hs => ?_) I ht)
  cases f with
  | next =>
    obtain ⟨H0', hz', σ', H', I', q⟩ := hs
    exact b.run A ip R n' ys' s₀' H0' c fs K J gd lv s' σ' H' D g hn' hz' k I' q
  | brk => exact k n' ys' s₀' s' .brk hn' hs
  | cont => exact k n' ys' s₀' s' .cont hn' hs
  | ret u => exact k n' ys' s₀' s' (.ret u) hn' hs
theorem gssf_one {t : TGn} (h : GSf X Z Kc st t) : GSsf X Z Kc [st] t := by
  have h2 := gssf_cons h (gssf_nil (X := X) (Z := Z) (Kc := Kc))
  exact ⟨fun A ip R n ys s₀ H0 c fs K J gd lv s σ H D g hn hz k I ht => h2.run A ip R n ys s₀ H0 c fs K J gd lv s σ H D g hn hz k I ht⟩
theorem gssf_stop {t : TGn} (h : GSsf X Z Kc rest t) : GSsf X Z Kc rest (gstop t) := ⟨fun A ip R n ys s₀ H0 c fs K J gd lv s σ H D g hn hz k I ht => h.run A ip R n ys s₀ H0 c fs K J gd lv s σ H D g hn hz k I ht.go⟩
theorem gsf_if {test : Expr} {body orelse : List Stmt} {pos : Pos} {c : TT} {t u : TGn} (al : Alone X) (hc : ∀ b, PT (rebC X b) test c) (ha : GSsf X Z Kc body t) (hb : GSsf X Z Kc orelse u) : GSf X Z Kc (.If test body orelse pos) (tGIf c t u) := by
  refine ⟨fun A ip R n ys s₀ H0 cd fs K J gd lv s σ H D g hn hz k I ht => ?_⟩
  show Seg _ _ _ _ _ _ _ ((do standAt pos; if ← isTrue test X.env (eval test X.env) then execs body X.env else execs orelse X.env : Sem Flow).wrap K J gd lv) _ _
  refine seg_bind_wrap (wpAny_standAt (seg_bind_wrap ?_))
  rw [g.over]
  refine wpAny_mono ((hc (s₀, H0)).run ip s σ H _ I ht) (fun b s' hb' => ?_) fun x s' hx => (al.nox x s' hx).elim
  obtain ⟨H2, I2, q2⟩ := hb'
  cases b with
  | true =>
    rw [if_pos rfl]
    exact ha.run A ip R n ys s₀ H0 cd fs K J gd lv s' σ H2 D g hn hz k I2 q2
  | false =>
    rw [if_neg Bool.false_ne_true]
    exact hb.run A ip R n ys s₀ H0 cd fs K J gd lv s' σ H2 D g hn hz k I2 q2
/-- yield e: the consumer's turn -/
def tFYield (Kc : TurnK) (te : TE) : TGn := fun D ys σ H => Need (ys.length < sizeLine) (te σ H fun x H1 => Kc ys x H1 fun H' => D.nx (ys ++ [x]) σ H')
theorem gsf_yield {e : Expr} {te : TE} {yp pos : Pos} (al : Alone X) (he : ∀ b, PE (rebC X b) e te) (hco : X.env.scope.isCoroutine = false := by rfl) (hi : interactive X.env = false := by rfl) : GSf X Z Kc (.Expr (.Yield (some e) yp) pos) (tFYield Kc te) := by
  refine ⟨fun A ip R n ys s₀ H0 c fs K J gd lv s σ H D g hn hz k I ht => ?_⟩
  obtain ⟨hlt, ht⟩ := ht
  obtain ⟨n, rfl⟩ : ∃ m, n = m + 1 := ⟨n - 1, by omega⟩
  refine seg_Expr_Yield g.split g.gd g.guard ?_ hco hi
  rw [g.over]
  refine wpAny_mono ((he (s₀, H0)).run ip s σ H _ I ht) (fun v s' hv => ?_) fun x s' hx => (al.nox x s' hx).elim
  obtain ⟨x, H1, I1, rv, q⟩ := hv
  intro kap hk
  obtain ⟨m, ⟨oL, es, ep, hL, hr⟩, _⟩ := id I1.loc
  have hL : s'.heap.get? X.env.locals = some oL := hL
  refine ⟨ys, x, ip, σ, H0, H1, oL, _, hn, rv, hz, I1, hL, q, fun s2 H2 w z p => hk .none s2 ?_⟩
  have lt : X.env.locals < s2.heap.objs.size := Heap.lt_size (w.gp (X.env.locals, oL) List.mem_cons_self).1
  refine k n (ys ++ [x]) s2 s2 .next ?_ ⟨H2, ⟨z, Nat.le_trans al.nl (Nat.le_of_lt lt)⟩, σ, H2, inv_wake I1 al.nl al.bz al.fr al.nc hL w, p⟩
  rw [List.length_append, List.length_singleton]; omega
theorem gcf_loop {A : Around} {c c' : Code} {fs : List Frame} {gd : Bool → Bool} {k : Result → Sem PySem.Fin} {l kp : List Value} {p : Pos} (g : GCf X A c fs gd) (hw : c'.weight = 0) (hu : c'.cUnits = 0) :
    GCf X A c' (.ret k none (gd false) l c p kp :: fs) id := by
  refine ⟨(over_loop hw hu).trans g.over, ?_, ?_, rfl⟩
  · show (splitAtGen fs).map _ = none
    rw [g.split] <;> rfl
  · show (gd false || fs.any Frame.guarded) = false
    rw [g.gd, g.guard] <;> rfl
theorem fpOk_reb {b b' : Shared × Hp} {ip : List (Addr × Obj)} {H H' : Hp} {q : Addr} (h : FpOk (rebC X b) ip H q) (hz : X.s_0.heap.objs.size ≤ b.1.heap.objs.size) (hn : H' q = none) : FpOk (rebC X b') ip H' q := by
  obtain ⟨_, h2, h3, h4, h5, h6⟩ := h
  refine ⟨hn, h2, h3, h4.imp (fun z => z) fun z => ?_, h5, h6⟩
  have z : (cut0 b.1.heap X.s_0.heap.objs.size).objs.size ≤ q := z
  show (cut0 b'.1.heap X.s_0.heap.objs.size).objs.size ≤ q
  rw [cut0_size] at z ⊢
  have z2 := Nat.min_eq_left hz
  rw [z2] at z
  exact Nat.le_trans (Nat.min_le_left _ _) z
theorem gsf_for {tg iter : Expr} {body : List Stmt} {wi : TI} {g : TG} {tb : TGn} {pos : Pos} (al : Alone X) (hc : X.calm = true) (hi : ∀ b, PI (rebC X b) tg iter wi) (hg : ∀ b, PG (rebC X b) tg g) (hb : GSsf X Z Kc body tb)
    (hs : ∀ x, foldedSetIterable iter X.env x = pure x := by intro _; rfl) : GSf X Z Kc (.For tg iter body [] pos) (dGFor wi g tb) := by
  refine ⟨fun A ip R n ys s₀ H0 c fs K J gd lv s σ H D gc hn hz k I ht => ?_⟩
  rw [exec_For]
  refine seg_bind_wrap (wpAny_standAt (seg_bind_wrap ?_))
  rw [gc.over]
  refine wpAny_mono ((hi (s₀, H0)).run ip s σ H _ I ht) (fun v s1 h1 => ?_) fun x s' hx => (al.nox x s' hx).elim
  refine seg_bind_wrap (wpAny_of_eq (hs v) (seg_bind_wrap (wpAny_standAt (seg_bind_wrap (wpAny_holding ?_)))))
  rw [gc.over]
  refine wpAny_mono h1 (fun itv s2 h2 => ?_) fun x s' hx => (al.nox x s' hx).elim
  obtain ⟨it, fp, tn, It, H2, e, I2, T, st2, f2, W, ⟨m0, w0⟩, turn⟩ := h2
  subst e
  refine seg_call fun p => ?_
  have gl := fun (kk : Result → Sem PySem.Fin) => gcf_loop (k := kk) (c' := .forLoop tg (.ref it) body [] X.env) (l := lv []) (kp := []) (p := p) gc rfl rfl
  have stat : ∀ {b' : Shared × Hp} {H' : Hp}, (∀ b ∈ fp, H' b = none) → ∀ b ∈ fp, FpOk (rebC X b') ip H' b := fun hn b hb => fpOk_reb (f2 b hb) hz.sz (hn b hb)
  have loop : ∀ (m i n : Nat) (ys : List V) (s₀ : Shared) (H0 : Hp) (s : Shared) (σ : L2.St) (H : Hp), n + ys.length = sizeLine → Gnd X Z ys s₀ H0 → W i m ys σ H → Inv (rebC X (s₀, H0)) ip σ H s → tn i s.heap → (∀ b ∈ fp, H b = none) →
      Seg (model X.prog X.w) A R (GYf X Z Kc) n s₀ (.forLoop tg (.ref it) body [] X.env) ((model X.prog X.w).den (.forLoop tg (.ref it) body [] X.env))
        (.ret (fun r => ((match r with | .ok f => (.pure f : Sem Flow) | .error e => .raise e).onRaise (cameBack X.env)).wrap K J gd lv) none (gd false) (lv []) c p [] :: fs) s := by
    intro m
    induction m using Nat.strongRecOn with
    | ind m ih =>
      intro i n ys s₀ H0 s σ H hn hz w I st fr
      refine seg_forLoop ?_
      rw [(gl _).over]
      rcases turn i m ys σ H w with ⟨stop, qn⟩ | ⟨go, N, hN, step⟩
      · refine wpAny_mono (T.done (rebC X (s₀, H0)) rfl rfl rfl hc i ip s σ H X.xe I (stat fr) st stop) (fun r s4 h4 => ?_) fun x s' hx => (al.nox x s' hx).elim
        obtain ⟨hr, I4⟩ := h4
        subst hr
        refine seg_block0 ?_
        exact seg_leaf (.ok .next) (k n ys s₀ s4 .next hn ⟨H0, hz, σ, H, I4, qn⟩)
      · refine wpAny_mono (T.item (rebC X (s₀, H0)) rfl rfl rfl hc i ip s σ H X.xe I (stat fr) st go) (fun r s4 h4 => ?_) fun x s' hx => (al.nox x s' hx).elim
        obtain ⟨u, hr, h4⟩ := h4
        subst hr
        refine wpAny_mono h4 (fun _ s5 h5 => ?_) fun x s' hx => (al.nox x s' hx).elim
        obtain ⟨x, H5, I5, r5, y5, st5, fr5⟩ := h5
        have I5' := I5.pinned (stat fr5) (T.obj _ _ st5)
        refine wpAny_mono ((hg (s₀, H0)).run _ s5 σ H5 x u _ I5' r5 (step x H5 y5)) (fun _ s6 h6 => ?_) fun x s' hx => (al.nox x s' hx).elim
        obtain ⟨σ6, H6, I6, q6⟩ := h6
        have again : ∀ {ys' : List V} {σ7 : L2.St} {H7 H0' : Hp} {s7 : Shared} {n' : Nat} {s₀' : Shared}, n' + ys'.length = sizeLine → Gnd X Z ys' s₀' H0' → Inv (rebC X (s₀', H0')) (ip ++ pinsAt fp s5.heap) σ7 H7 s7 → N ys' σ7 H7 →
            Seg (model X.prog X.w) A R (GYf X Z Kc) n' s₀' (.forLoop tg (.ref it) body [] X.env) (.pure (.again (.forLoop tg (.ref it) body [] X.env)))
            (.ret (fun r => ((match r with | .ok f => (.pure f : Sem Flow) | .error e => .raise e).onRaise (cameBack X.env)).wrap K J gd lv) none (gd false) (lv []) c p [] :: fs) s7 := by
          intro ys' σ7 H7 H0' s7 n' s₀' hn' hz' I7 n7
          obtain ⟨m', hm, w7⟩ := hN ys' σ7 H7 n7
          have pin : ∀ b ∈ fp, ∀ o, s5.heap.get? b = some o → s7.heap.get? b = some o ∧ H7 b = none := fun b hb o e => by
            have := I7.pin (b, o) (List.mem_append_right _ (List.mem_append_right _ (mem_pinsAt hb e)))
            exact ⟨this.1, this.2.1⟩
          refine seg_again rfl (ih m' hm (i + 1) n' ys' s₀' H0' s7 σ7 H7 hn' hz' w7 I7.unpinned (T.keep _ _ _ st5 fun b hb o e => (pin b hb o e).1) fun b hb => ?_)
          obtain ⟨o, e, d⟩ := T.obj _ _ st5 b hb
          exact (pin b hb o e).2
        refine hb.run A (ip ++ pinsAt fp s5.heap) R n ys s₀ H0 _ _ _ _ id id s6 σ6 H6 { D with nx := N, ct := N, bk := D.nx } (gl _) hn hz (fun n' ys' s₀' s7 f hn' hs => ?_) I6 q6
        obtain ⟨H0', hz', hs⟩ := hs
        cases f with
        | next =>
          obtain ⟨σ7, H7, I7, n7⟩ := hs
          exact again hn' hz' I7 n7
        | cont =>
          obtain ⟨σ7, H7, I7, n7⟩ := hs
          exact again hn' hz' I7 n7
        | brk =>
          obtain ⟨σ7, H7, I7, q7⟩ := hs
          exact seg_leaf (.ok .next) (k n' ys' s₀' s7 .next hn' ⟨H0', hz', σ7, H7, I7.unpinned, q7⟩)
        | ret v =>
          obtain ⟨y, σ7, H7, I7, r7, q7⟩ := hs
          exact seg_leaf (.ok (.ret v)) (k n' ys' s₀' s7 (.ret v) hn' ⟨H0', hz', y, σ7, H7, I7.unpinned, r7, q7⟩)
  exact loop m0 0 n ys s₀ H0 s2 σ H2 hn hz w0 I2 st2 fun b hb => (f2 b hb).1
end

/-! ### the call of such a def -/
abbrev SpF := List V → Hp → TurnK → (List V → Hp → Prop) → Prop
structure Wok0 (P : Program) (w : World) (base : Heap) (outer : List Env) (gp : List (Addr × Obj)) (s : Shared) (H : Hp) : Prop where
  bare : AllBare s.gens
  bs : ∀ b o, base.get? b = some o → s.heap.get? b = some o ∧ H b = none
  bsz : base.objs.size ≤ s.heap.objs.size
  funs : s.heap.FunFrames base outer
  frf : ∀ b ∈ frs outer, H b = none
  hok : HOk P w H s.heap
  gp : ∀ p ∈ gp, s.heap.get? p.1 = some p.2 ∧ H p.1 = none
/-- an item is handed out: n objects stood when the generator was made -/
def YItF (P : Program) (w : World) (base : Heap) (outer : List Env) (ng : Nat) (a : Addr) (g : Nat) (Z : WakeZ) (Kc : TurnK) : Protocol := fun n s₀ v s1 kap =>
  ∃ ys x H0 H gp post, n + 1 + ys.length = sizeLine ∧ RelV x v ∧ Z ys s₀ H0 ∧ s1.os = s₀.os ∧ AllBare s1.gens ∧ s1.heap.NoLimit ∧ s1.heap.IsGen a g ∧ Un (frs outer) [] H0 H (cut0 s₀.heap ng) s1.heap ∧ HOk P w H s1.heap ∧
    (∀ p ∈ gp, s1.heap.get? p.1 = some p.2 ∧ H p.1 = none ∧ p.1 ∉ frs outer ∧ ∀ v, p.2.data ≠ .cell v) ∧ (∃ o, (a, o) ∈ gp) ∧ Kc ys x H post ∧ ∀ s' H', Wok0 P w base outer gp s' H' → Z (ys ++ [x]) s' H' → post H' → kap (.send .none) s'
/-- the end -/
def FEnd (P : Program) (w : World) (outer : List Env) (ng : Nat) (Z : WakeZ) (Q : List V → Hp → Prop) (s₀ s1 : Shared) : Prop :=
  ∃ ys H0 H, Z ys s₀ H0 ∧ s1.os = s₀.os ∧ AllBare s1.gens ∧ Un (frs outer) [] H0 H (cut0 s₀.heap ng) s1.heap ∧ HOk P w H s1.heap ∧ Q ys H
def REnF (P : Program) (w : World) (outer : List Env) (ng : Nat) (Z : WakeZ) (Q : List V → Hp → Prop) : GenEnd := fun _ s₀ r s1 => ((r = .ok (.ret .none) ∨ r = .ok .next) ∧ FEnd P w outer ng Z Q s₀ s1) ∨ ∃ e, r = .error e ∧ False
/-- a generator that has not begun -/
def GMadeF (P : Program) (w : World) (K : Frag) (mg : Str → Option Value) (base : Heap) (k : Nat) (outer : List Env) (H : Hp) (s : Shared) (Kc : TurnK) (Q : List V → Hp → Prop) (u : Value) (s' : Shared) : Prop :=
  ∃ (a : Addr) (g : Nat) (c : Code), u = .ref a ∧ s.heap.objs.size ≤ a ∧ s'.heap.IsGen a g ∧ s'.gens[g]? = some (.fresh c) ∧ s'.os = s.os ∧ AllBare s'.gens ∧ s'.heap.NoLimit ∧ (∀ b o, s.heap.get? b = some o → s'.heap.get? b = some o) ∧
    ∀ (A : Around) (Z : WakeZ) (s2 : Shared), Room k A → A.frames = some outer → Env0 P w K mg base A outer s2 H → s2.heap = s'.heap → s2.os = s'.os → Z [] s2 H →
      Seg (model P w) A (REnF P w outer s.heap.objs.size Z Q) (YItF P w base outer s.heap.objs.size a g Z Kc) sizeLine s2 c ((model P w).den c) [] s2
def gcx0 (P : Program) (w : World) (K : Frag) (mg : Str → Option Value) (base : Heap) (N : List Str) (qual : Str) (scope : Scope) (f : Addr) (cd : Value) (A : Around) (outer : List Env) (s : Shared) (H : Hp) (pn : List (Addr × Obj)) : Cx :=
  { cxOf (L2.CX P w) P w K mg base N qual scope f cd A outer s H (fun _ _ _ => False) with pn := pn, xe := fun _ _ => False }
theorem cells_no {x : Str} : ∀ {names : List (Str × NameKind)} {n : Nat}, (∀ y ∈ names, y.2 ≠ .cell) → (cellsFrom n names []).lookup x = none
  | [], _, _ => rfl
  | (y, k) :: r, n, h => by
    have hk : (k == .cell) = false := by
      have := h (y, k) List.mem_cons_self
      cases k <;> first | rfl | exact absurd rfl this
    unfold cellsFrom
    rw [hk, if_neg Bool.false_ne_true]
    exact cells_no fun z hz => h z (List.mem_cons_of_mem _ hz)
structure GFF (P : Program) (w : World) (K : Frag) (mg : Str → Option Value) (base : Heap) (k : Nat) (f : Addr) (sp : SpF) : Prop where
  run : ∀ (A : Around) (outer : List Env) (s : Shared) (H : Hp) (us : List Value) (vs : List V) (Kc : TurnK) (Q : List V → Hp → Prop), Room k A → Env0 P w K mg base A outer s H → Vals vs us → sp vs H Kc Q →
    codeAny (model P w) A (.call (.ref f) ⟨us, []⟩) (fun r s' => match r with | .ok (.ret u) => GMadeF P w K mg base k outer H s Kc Q u s' | _ => False) s
theorem inv_swap {X Y : Cx} {pins : List (Addr × Obj)} {σ : L2.St} {H : Hp} {s : Shared} (I : Inv X pins σ H s) (e : Y = { X with xe := Y.xe }) : Inv Y pins σ H s := by
  rw [e]
  exact ⟨⟨I.ok.mod, I.ok.kind, I.ok.glob, I.ok.blt, I.ok.above, I.ok.inj, I.ok.has, I.ok.cab, I.ok.hd, I.ok.frames, I.ok.stk, I.ok.exf, I.ok.bs, I.ok.bsz, I.ok.noex, I.ok.exfs, I.ok.funs, I.ok.frf⟩, I.os, I.bare, I.base, I.loc, I.cell, I.free, I.freeC, I.pin, I.hok, I.len⟩
theorem inv_pn {X : Cx} {pn : List (Addr × Obj)} {σ : L2.St} {H : Hp} {s : Shared} (I : Inv X [] σ H s) (h : ∀ p ∈ pn, s.heap.get? p.1 = some p.2 ∧ H p.1 = none ∧ p.1 ≠ X.env.locals ∧ p.1 ∉ X.fs ∧ ∀ v, p.2.data ≠ .cell v) : Inv { X with pn := pn } [] σ H s :=
  ⟨⟨I.ok.mod, I.ok.kind, I.ok.glob, I.ok.blt, I.ok.above, I.ok.inj, I.ok.has, I.ok.cab, I.ok.hd, I.ok.frames, I.ok.stk, I.ok.exf, I.ok.bs, I.ok.bsz, I.ok.noex, I.ok.exfs, I.ok.funs, I.ok.frf⟩, I.os, I.bare, I.base, I.loc, I.cell, I.free, I.freeC, fun p hp => h p (by simpa using hp), I.hok, I.len⟩
/-- a generator def's promise to a loop, by its body -/
theorem gff_of {P : Program} {w : World} {K : Frag} {mg : Str → Option Value} {base : Heap} {k : Nat} {f : Addr} {x qual : Str} {params : Arguments} {body : List Stmt} {scope : Scope} {fd : FuncData} {N ps : List Str} {sp : SpF}
    (F : FunD K x qual params body scope [] [] f fd) (S : GScope N ps scope) (hnc : ∀ y ∈ scope.names, y.2 ≠ .cell) (len : ∀ vs H Kc Q, sp vs H Kc Q → vs.length = ps.length)
    (hbi : ∀ (kV doc pm : Value) (an : Option Addr) (cdv ct : Value) (us : List Value), us.length = ps.length → bindArgs (PySem.W.fnOf x qual params body scope .none kV doc pm an cdv ct) ⟨us, []⟩ = pure (ps.zip us)) {t : TurnK → TGn}
    (hbody : ∀ (cdv : Value) (A : Around) (outer : List Env) (s : Shared) (H : Hp) (pn : List (Addr × Obj)) (Z : WakeZ) (Kc : TurnK), Room k (A.deeper (envOfC qual scope s.heap.objs.size f cdv)) → Alone (gcx0 P w K mg base N qual scope f cdv A outer s H pn) →
      GSsf (gcx0 P w K mg base N qual scope f cdv A outer s H pn) Z Kc body (t Kc))
    (pure : ∀ vs H Kc Q, sp vs H Kc Q → t Kc { nx := fun ys _ H' => Q ys H', rt := fun ys v H' => v = .non ∧ Q ys H' } [] (start N vs) H) : GFF P w K mg base (k + 1) f sp := by
  refine ⟨fun A outer s H us vs Kc Q hr e0 r hsp => ?_⟩
  have hb := F.bindsN hbi
  obtain ⟨oc, od, dV, kV, doc, pm, an, cdv, ct, osl, rfl, lk, hcd, _, _⟩ := F.ex
  have hl := len _ _ _ _ hsp
  have hl2 : us.length = ps.length := by rw [← r.length]; exact hl
  have KX : K.In s.heap := e0.mod.kin.keeps fun b o e => (e0.bs b o e).1
  have lim : s.heap.NoLimit := e0.mod.nolimit.keeps fun b o e => (e0.bs b o e).1
  have hkind : ∀ y ∈ ps.zip us, scope.names.lookup y.1 = some .local ∨ (scope.names.lookup y.1 = some .cell ∧ ((cellsFrom (s.heap.objs.size + 1) scope.names []).lookup y.1).isSome = true) := fun ⟨n, v⟩ hy => by
    rcases S.par n (List.of_mem_zip hy).1 with q | q
    · exact .inl q
    · exact absurd rfl (hnc _ (PySem.mem_of_lookup q))
  have hbind := hb s us KX (by simpa using hl2)
  rw [List.append_nil] at hbind
  refine codeAny_call_generator hr.depth (KX _ _ lk) rfl S.co S.gen rfl (PySem.W.codeRec_of KX hcd) (hbind _ _ _ _ ?_)
  refine wpAny_newFunctionEnv_cells S.kind hkind fun env he s1 xx => ?_
  subst he
  have lim1 : s1.heap.NoLimit := lim.keeps xx.toInCall.keep
  refine ⟨lim1, ?_⟩
  obtain ⟨h1, tk, es1, hk1⟩ := xx.done
  have os1 : s1.os = s.os := by rw [es1]
  have gen1 : s1.gens = s.gens := by rw [es1]
  have lt1 : s.heap.objs.size < s1.heap.objs.size := xx.toInCall.ns.lt
  have main : ∀ (go : Obj) (nm qn : Value) (tk2 : Nat), go.cls = .type "generator" → go.data = .fields #[.int s1.gens.size 0, nm, qn] → go.slots = #[] → (∀ h : Heap, (h.push go).get? h.objs.size = some go) →
      GMadeF P w K mg base (k + 1) outer H s Kc Q (.ref s1.heap.objs.size) { s1 with gens := s1.gens.push (.fresh (.func body (envOfC qual scope s.heap.objs.size f cdv))), toks := tk2, heap := s1.heap.push go } := by
    intro go nm qn tk2 hgc hgd0 hgs hgp
    have hgen : ∀ h : Heap, h.get? s1.heap.objs.size = some go → h.IsGen s1.heap.objs.size s1.gens.size := fun h e => ⟨go, nm, qn, e, hgc, hgd0, hgs⟩
    have kpush : ∀ b o, s1.heap.get? b = some o → (s1.heap.push go).get? b = some o := fun b o e => Heap.get?_push_of_some _ e
    refine ⟨s1.heap.objs.size, s1.gens.size, _, rfl, Nat.le_of_lt lt1, hgen _ (hgp _), Array.getElem?_push_size .., os1, AllBare.push (by rw [gen1]; exact e0.bare) rfl, lim1.keeps kpush, fun b o e => kpush b o (xx.toInCall.keep b o e), ?_⟩
    intro Aw Z s2 hrw hfr e2 eh eo hz
    have eS : Env0 P w K mg base Aw outer s H := ⟨hfr, e0.mod, e0.bs, e0.bsz, e0.funs, e0.frf, e0.hok, e0.bare⟩
    have I1 : Inv (gcx0 P w K mg base N qual scope f cdv Aw outer s H []) [] (start N vs) H s1 := inv_swap (inv_startG (E := fun _ _ _ => False) S hrw.hd eS hl r xx) rfl
    have hgd : ∀ v, go.data ≠ .cell v := fun v q => by rw [hgd0] at q; cases q
    have al : Alone (gcx0 P w K mg base N qual scope f cdv Aw outer s H [(s1.heap.objs.size, go)]) := ⟨fun _ _ z => z, Nat.le_refl _, e0.bsz, fun q hq => by
      obtain ⟨_, o, ho, _⟩ := e0.funs.mem hq
      exact Heap.lt_size ho, fun y => cells_no hnc⟩
    have hfr0 : ∀ q ∈ frs outer, q < s.heap.objs.size := al.fr
    -- the frame stands in s2 as in s1
    have kp2 : ∀ b o, s1.heap.get? b = some o → s2.heap.get? b = some o := fun b o e => by rw [eh]; exact kpush b o e
    obtain ⟨m, ⟨oL, esL, epL, hL, hdL, hrL⟩, _⟩ := id I1.loc
    have I2 : Inv (gcx0 P w K mg base N qual scope f cdv Aw outer s H []) [] (start N vs) H s2 := I1.call' (ch := []) (eo.trans rfl) (Un.kept kp2) (I1.hok.kept kp2) e2.bare fun b z => by simp at z
    have hpn : s2.heap.get? s1.heap.objs.size = some go := by rw [eh]; exact hgp _
    have I3 : Inv (gcx0 P w K mg base N qual scope f cdv Aw outer s H [(s1.heap.objs.size, go)]) [] (start N vs) H s2 := inv_pn I2 fun p hp => by
      rw [List.mem_singleton.mp hp]
      refine ⟨hpn, I1.hok.fresh (Nat.le_refl _), Nat.ne_of_gt lt1, fun z => ?_, hgd⟩
      exact absurd (Nat.lt_trans (hfr0 _ z) lt1) (Nat.lt_irrefl _)
    have I4 := inv_reb I3
    have gz : Gnd (gcx0 P w K mg base N qual scope f cdv Aw outer s H [(s1.heap.objs.size, go)]) Z [] s2 H := ⟨hz, I3.sz⟩
    refine seg_func ?_
    refine seg_imp (R := GRf (gcx0 P w K mg base N qual scope f cdv Aw outer s H [(s1.heap.objs.size, go)]) Z fun ys v H' => v = .non ∧ Q ys H') (Y := GYf (gcx0 P w K mg base N qual scope f cdv Aw outer s H [(s1.heap.objs.size, go)]) Z Kc)
      (fun n s₀ r s1' hR => ?_) (fun n s₀ v s1' kap kap' hkk hY => ?_) sizeLine ?_
    · cases r with
      | error e => exact False.elim hR
      | ok fl =>
        cases fl with
        | next => exact False.elim hR
        | brk => exact False.elim hR
        | cont => exact False.elim hR
        | ret u =>
          obtain ⟨ys, v, ip, σ', H0, H', hn, hz', J, rv, ev, hQ⟩ := hR
          subst ev
          have eu : u = Value.none := rv
          subst eu
          exact .inl ⟨.inl rfl, ys, H0, H', hz'.z, J.os, J.bare, J.base, J.hok, hQ⟩
    · obtain ⟨ys, y, ip, σ', H0, H', oL', post, hn, rv, hz', J, hL', hk, hw⟩ := hY
      obtain ⟨m', ⟨o', es', ep', ho', hd', _⟩, _⟩ := id J.loc
      have ho' : s1'.heap.get? s.heap.objs.size = some o' := ho'
      have hL' : s1'.heap.get? s.heap.objs.size = some oL' := hL'
      rw [hL'] at ho'
      cases ho'
      refine ⟨ys, y, H0, H', (s.heap.objs.size, oL') :: ([(s1.heap.objs.size, go)] ++ ip), post, hn, rv, hz'.z, J.os, J.bare, J.nolimit, hgen _ (J.pin (s1.heap.objs.size, go) (List.mem_append_left _ (List.mem_singleton.mpr rfl))).1, J.base, J.hok, fun p hp => ?_, ⟨go, by simp⟩, hk, fun s' H2 wk z p => hkk _ _ (hw s' H2 ⟨wk.bare, wk.bs, wk.bsz, wk.funs, wk.frf, wk.hok, wk.gp⟩ z p)⟩
      rcases List.mem_cons.mp hp with e | hp
      · rw [e]
        refine ⟨hL', J.free, fun z => absurd (hfr0 _ z) (Nat.lt_irrefl _), fun v q => ?_⟩
        have q : oL'.data = .cell v := q
        rw [hd'] at q; cases q
      · obtain ⟨q1, q2, _, q4, q5⟩ := J.pin p hp
        exact ⟨q1, q2, q4, q5⟩
    · refine (hbody cdv Aw outer s H [(s1.heap.objs.size, go)] Z Kc (hrw.deeper _) al).run Aw [] _ sizeLine [] s2 H _ [] _ _ id id s2 (start N vs) H { nx := fun ys _ H' => Q ys H', rt := fun ys v H' => v = .non ∧ Q ys H' } ⟨over_func, rfl, rfl, rfl⟩ (Nat.add_zero _) gz (fun n ys s₀ s' fl hn hs => ?_) I4 (pure vs H Kc Q hsp)
      obtain ⟨H0, hz', hs⟩ := hs
      cases fl with
      | next =>
        obtain ⟨σ', H', J, hQ⟩ := hs
        exact seg_end (.ok (.ret .none)) ⟨ys, .non, [], σ', H0, H', hn, hz', J, rfl, rfl, hQ⟩
      | brk => obtain ⟨_, _, _, q⟩ := hs; exact False.elim q
      | cont => obtain ⟨_, _, _, q⟩ := hs; exact False.elim q
      | ret u =>
        obtain ⟨v, σ', H', J, rv, ev, hQ⟩ := hs
        exact seg_end (.ok (.ret u)) ⟨ys, v, [], σ', H0, H', hn, hz', J, rv, ev, hQ⟩
  exact main _ _ _ _ rfl rfl rfl fun h => Heap.get?_push_size _ rfl
end S
namespace S
open PySem PySem.Spec PyProof.Rows L2 GenW
section
variable (X : Cx)
def OpRg (f : Value → Value → Sem Value) (r : R2) : Prop := ∀ (pins : List (Addr × Obj)) (s : Shared) (σ : L2.St) (H : Hp) (x y : V) (v u : Value) (Q : VK), Inv X pins σ H s → RelV x v → RelV y u → r x y H Q →
  wpAny (model X.prog X.w) X.A (f v u) (fun z s' => s'.gens = s.gens ∧ EP X pins σ Q z s') X.xe s
structure PEg (e : Expr) (t : TE) : Prop where
  run : ∀ (pins : List (Addr × Obj)) (s : Shared) (σ : L2.St) (H : Hp) (Q : VK), Inv X pins σ H s → t σ H Q → wpAny (model X.prog X.w) X.A (eval e X.env) (fun z s' => s'.gens = s.gens ∧ EP X pins σ Q z s') X.xe s
structure PTg (e : Expr) (t : TT) : Prop where
  run : ∀ (pins : List (Addr × Obj)) (s : Shared) (σ : L2.St) (H : Hp) (Q : Bool → Hp → Prop), Inv X pins σ H s → t σ H Q → wpAny (model X.prog X.w) X.A (isTrue e X.env (eval e X.env)) (fun z s' => s'.gens = s.gens ∧ TP X pins σ Q z s') X.xe s
structure PSg (st : Stmt) (t : TS) : Prop where
  run : ∀ (pins : List (Addr × Obj)) (s : Shared) (σ : L2.St) (H : Hp) (D : Ends), Inv X pins σ H s → t D σ H → wpAny (model X.prog X.w) X.A (exec st X.env) (fun z s' => s'.gens = s.gens ∧ SP X pins D z s') X.xe s
structure PSsg (st : List Stmt) (t : TS) : Prop where
  run : ∀ (pins : List (Addr × Obj)) (s : Shared) (σ : L2.St) (H : Hp) (D : Ends), Inv X pins σ H s → t D σ H → wpAny (model X.prog X.w) X.A (execs st X.env) (fun z s' => s'.gens = s.gens ∧ SP X pins D z s') X.xe s
structure PGg (tg : Expr) (t : TG) : Prop where
  run : ∀ (pins : List (Addr × Obj)) (s : Shared) (σ : L2.St) (H : Hp) (v : V) (u : Value) (Q : L2.St → Hp → Prop), Inv X pins σ H s → RelV v u → t v σ H Q →
    wpAny (model X.prog X.w) X.A (assign tg X.env u) (fun _ s' => s'.gens = s.gens ∧ ∃ σ' H', Inv X pins σ' H' s' ∧ Q σ' H') X.xe s
structure PGsg (ts : List Expr) (t : TGs) : Prop where
  run : ∀ (pins : List (Addr × Obj)) (s : Shared) (σ : L2.St) (H : Hp) (vs : List V) (us : List Value) (Q : L2.St → Hp → Prop), Inv X pins σ H s → Vals vs us → t vs σ H Q →
    wpAny (model X.prog X.w) X.A (assignInOrder ((assignEach ts X.env).map (·.2)) us) (fun _ s' => s'.gens = s.gens ∧ ∃ σ' H', Inv X pins σ' H' s' ∧ Q σ' H') X.xe s
end
section
variable {X : Cx} {pos : Pos} {a b c e : Expr} {ta tb tc te : TE}
theorem pvg (i : Nat) {x : Str} (hN : X.N[i]? = some x := by rfl) (hv : Vis X.env.scope x := by first | exact Or.inl rfl | exact Or.inr (Or.inl rfl) | exact Or.inr (Or.inr rfl)) (hd : (x == ("__debug__" : Str)) = false := by decide)
    (hcd : (x == ("__classdict__" : Str)) = false := by decide) : PEg X (.Name x pos) (dVar i) := by
  refine ⟨fun pins s σ H Q I h => ?_⟩
  unfold dVar onSome at h
  cases e : nth σ i with
  | none => rw [e] at h; exact h.elim
  | some v =>
    rw [e] at h
    obtain ⟨m, hn, hl⟩ := I.loc
    obtain ⟨u, r, l⟩ := hl i x v hN (nth_ok e) hv
    have fin : s.gens = s.gens ∧ EP X pins σ Q u s := ⟨rfl, v, H, I, r, h⟩
    rcases l with ⟨hk, hm⟩ | ⟨hk, c, hc, hcell⟩
    · exact wpAny_Name (wpAny_loadName_local I.ok.kind hk hn hm fin) hd
    · rcases hk with hk | hk
      · exact wpAny_Name (wpAny_loadName_cell I.ok.kind hk hc hcell fin) hd
      · exact wpAny_Name (wpAny_loadName_free I.ok.kind hk hc hcell fin hcd) hd
theorem peg_int {i : Int} {j : Nat} : PEg X (.Constant (.int i) j pos) (tC (.int i)) := ⟨fun _ _ _ H _ I h => wpAny_Constant_int ⟨rfl, .int i, H, I.tok _, ⟨_, rfl⟩, h⟩⟩
theorem og_add {r : R2} (e : r = oI0 (fun i j => i + j)) : OpRg X (binaryOp .Add) r := fun pins s σ H x y v u Q I rx ry q => by
  subst e
  cases x <;> cases y <;> try exact q.elim
  rename_i i j
  obtain ⟨t, rfl⟩ := rx
  obtain ⟨t', rfl⟩ := ry
  exact add_int ⟨rfl, .int (i + j), H, I.tok _, ⟨_, rfl⟩, q⟩
theorem og_sub : OpRg X (binaryOp .Sub) oSub := fun pins s σ H x y v u Q I rx ry q => by
  cases x <;> cases y <;> try exact q.elim
  rename_i i j
  obtain ⟨t, rfl⟩ := rx
  obtain ⟨t', rfl⟩ := ry
  exact PyProof.Rows.sub_int ⟨rfl, .int (i - j), H, I.tok _, ⟨_, rfl⟩, q⟩
theorem og_lt : OpRg X (compareOp .Lt) oLt := fun pins s σ H x y v u Q I rx ry q => by
  cases x <;> cases y <;> try exact q.elim
  rename_i i j
  obtain ⟨t, rfl⟩ := rx
  obtain ⟨t', rfl⟩ := ry
  exact lt_int ⟨rfl, .bl (decide (i < j)), H, I, rfl, q⟩
theorem og_le : OpRg X (compareOp .LtE) oLe := fun pins s σ H x y v u Q I rx ry q => by
  cases x <;> cases y <;> try exact q.elim
  rename_i i j
  obtain ⟨t, rfl⟩ := rx
  obtain ⟨t', rfl⟩ := ry
  exact le_int ⟨rfl, .bl (decide (i ≤ j)), H, I, rfl, q⟩
theorem peg_op {op : Operator} {r : R2} (ho : OpRg X (binaryOp op) r) (ha : PEg X a ta) (hb : PEg X b tb) : PEg X (.BinOp a op b pos) (tOp r ta tb) := by
  refine ⟨fun pins s σ H Q I h => ?_⟩
  refine wpAny_BinOp (thn (ha.run pins s σ H _ I h) fun v s1 ⟨g1, x, H1, I1, r1, q1⟩ => thn (hb.run pins s1 σ H1 _ I1 q1) fun u s2 ⟨g2, y, H2, I2, r2, q2⟩ => thn (ho pins s2 σ H2 x y v u Q I2 r1 r2 q2) fun w s3 ⟨g3, q3⟩ => ⟨?_, q3⟩)
  rw [g3, g2, g1]
theorem ptg_chain {op op' : CmpOp} {r r' : R2} (ho : OpRg X (compareOp op) r) (ho' : OpRg X (compareOp op') r') (ha : PEg X a ta) (hb : PEg X b tb) (hc : PEg X c tc)
    (hm : lastMarks [op, op'] [b, c] = false := by with_unfolding_all rfl) : PTg X (.Compare a [op, op'] [b, c] pos) (dChainT r r' ta tb tc) := by
  refine ⟨fun pins s σ H Q I h => ?_⟩
  refine isTrue_chain (thn (ha.run pins s σ H _ I h) fun v s1 ⟨g1, x, H1, I1, r1, q1⟩ => test_link (thn (hb.run pins s1 σ H1 _ I1 q1) fun u s2 ⟨g2, y, H2, I2, r2, q2⟩ =>
    thn (ho pins s2 σ H2 x y v u _ I2 r1 r2 q2) fun d s3 ⟨g3, z, H3, I3, r3, q3⟩ => ?_)) hm
  obtain ⟨k, e, q3⟩ := isB_ex q3
  subst e
  cases r3
  have gg : s3.gens = s.gens := by rw [g3, g2, g1]
  refine wpAny_truthy_bool ?_
  cases k with
  | false => exact ite_ff ⟨gg, H3, I3, q3⟩
  | true =>
    refine ite_tt (test_last (thn (hc.run pins s3 σ H3 _ I3 q3) fun w' s4 ⟨g4, z', H4, I4, r4, q4⟩ => thn (ho' pins s4 σ H4 y z' u w' _ I4 r2 r4 q4) fun d' s5 ⟨g5, z2, H5, I5, r5, q5⟩ => ?_))
    obtain ⟨k2, e2, q5⟩ := isB_ex q5
    subst e2
    cases r5
    exact wpAny_truthy_bool ⟨by rw [g5, g4]; exact gg, H5, I5, q5⟩
theorem psg_if {sa sb : List Stmt} {tt : TT} {t u : TS} (hc : PTg X c tt) (ha : PSsg X sa t) (hb : PSsg X sb u) : PSg X (.If c sa sb pos) (dIfS tt t u) := by
  refine ⟨fun pins s σ H D I h => ?_⟩
  refine wpAny_If (thn (hc.run pins s σ H _ I h) fun d s1 ⟨g1, H1, I1, q1⟩ => ?_)
  cases d with
  | true => exact thn (ha.run pins s1 σ H1 D I1 q1) fun _ _ ⟨g2, q⟩ => ⟨g2.trans g1, q⟩
  | false => exact thn (hb.run pins s1 σ H1 D I1 q1) fun _ _ ⟨g2, q⟩ => ⟨g2.trans g1, q⟩
theorem pssg_nil : PSsg X [] tNext := ⟨fun _ _ σ H _ I h => wpAny_execs_nil ⟨rfl, σ, H, I, h⟩⟩
theorem pssg_cons {st : Stmt} {rest : List Stmt} {t u : TS} (h1 : PSg X st t) (h2 : PSsg X rest u) : PSsg X (st :: rest) (tSeq t u) := by
  refine ⟨fun pins s σ H D I h => ?_⟩
  refine wpAny_execs_cons (thn (h1.run pins s σ H { D with nx := u D } I h) fun f s1 ⟨g1, q⟩ => ?_)
  cases f with
  | next =>
    obtain ⟨σ', H', I', q⟩ := q
    exact thn (h2.run pins s1 σ' H' D I' q) fun _ _ ⟨g2, q⟩ => ⟨g2.trans g1, q⟩
  | ret v => exact ⟨g1, q⟩
  | brk => exact ⟨g1, q⟩
  | cont => exact ⟨g1, q⟩
theorem pssg_one {st : Stmt} {t : TS} (h1 : PSg X st t) : PSsg X [st] t := by
  have h2 := pssg_cons h1 (pssg_nil (X := X))
  exact ⟨fun pins s σ H D I h => h2.run pins s σ H D I h⟩
theorem pssg_stop {st : List Stmt} {t : TS} (h : PSsg X st t) : PSsg X st (stop t) := ⟨fun pins s σ H D I q => h.run pins s σ H D I q.go⟩
/-- a local name is stored -/
theorem store_g {pins : List (Addr × Obj)} {σ : L2.St} {H : Hp} {s : Shared} {i : Nat} {x : Str} {v : V} {u : Value} {Q : Unit → Shared → Prop} (I : Inv X pins σ H s) (hN : X.N.Nodup) (hi : X.N[i]? = some x) (hk : X.env.scope.names.lookup x = some .local) (r : RelV v u)
    (h : ∀ s', s'.gens = s.gens → Inv X pins (σ.set i (some v)) H s' → Q () s') : wpAny (model X.prog X.w) X.A (storeName X.env x u) Q X.xe s := by
  obtain ⟨m, hn, hl⟩ := id I.loc
  have hcls : (X.env.scope.kind == .class || (X.env.scope.kind == .module && X.env.locals != X.env.globals)) = false := by rw [I.ok.kind]; rfl
  have hiσ : i < σ.length := by rw [I.len]; exact (List.getElem?_eq_some_iff.mp hi).1
  have cne := I.cne
  refine wpAny_storeName_local hk hn (fun h' hn' hs => ?_) hcls
  obtain ⟨oL, _, _, hoL, _⟩ := id hn
  have old : ∀ q o, X.s_0.heap.get? q = some o → q ≠ X.env.locals := fun q o e => Nat.ne_of_lt (Nat.lt_of_lt_of_le (Heap.lt_size e) I.ok.above)
  have nl : ∀ q o, H q = some o → q ≠ X.env.locals := fun q o e z => by rw [z, I.free] at e; cases e
  refine h _ rfl ⟨I.ok, I.os, I.bare, ⟨fun q o e n hb hx => (hs.2 q (old q o e)).trans (I.base.keep q o e n hb hx), fun q o e n hb hx => ?_, I.base.free, fun q o e hx => ?_, I.base.tups, I.base.frzs, I.base.tbls⟩, ⟨_, hn', fun j y v' e1 e2 e3 => ?_⟩, fun y c e => ?_, I.free, I.freeC, fun p hp => ?_, fun q o e => ?_, by simpa using I.len⟩
  · obtain ⟨sl, e1⟩ := I.base.slot q o e n hb hx
    exact ⟨sl, (hs.2 q (old q o e)).trans e1⟩
  · obtain ⟨o', e1⟩ := I.base.there q o e hx
    exact ⟨o', (hs.2 q (old q o e)).trans e1⟩
  · by_cases hj : j = i
    · subst hj
      rw [hi] at e1
      cases e1
      rw [List.getElem?_set_self hiσ] at e2
      cases e2
      exact ⟨u, r, .inl ⟨hk, by simp⟩⟩
    · rw [List.getElem?_set_ne (Ne.symm hj)] at e2
      obtain ⟨u', r', q⟩ := hl j y v' e1 e2 e3
      refine ⟨u', r', q.imp (fun ⟨k, e⟩ => ⟨k, ?_⟩) fun ⟨k, c, e, z⟩ => ⟨k, c, e, z.sameBut hs (cne y c e)⟩⟩
      have : y ≠ x := fun e => hj (nodup_ix hN e1 (e ▸ hi))
      simp [this, e]
  · obtain ⟨w', z⟩ := I.cell y c e
    exact ⟨w', z.sameBut hs (cne y c e)⟩
  · obtain ⟨e, n, ne, nf, d⟩ := I.pin p hp
    exact ⟨(hs.2 p.1 ne).trans e, n, ne, nf, d⟩
  · refine (I.hok q o e).stay (fun c w' hc z => (hs.2 c ?_).trans z) (fun _ z => z) fun _ _ z => z
    rcases hc with hc | hc
    · rw [hc]; exact nl q o e
    · exact nl c _ hc
theorem psg_set {i : Nat} {x : Str} {pos' : Pos} (hN : X.N.Nodup) (hi : X.N[i]? = some x) (hx : Loc X.env.scope x) (he : PEg X e te) (hs : swapsWith e (some (.Name x pos')) pos.line X.env = pure false := by rfl) (hf : X.env.scope.names.lookup x = some .local := by rfl) :
    PSg X (.Assign [.Name x pos'] e pos) (tAsg te (gName i)) := by
  refine ⟨fun pins s σ H D I h => ?_⟩
  refine wpAny_Assign_Name (thn (he.run pins s σ H _ I h) fun v s1 ⟨g1, y, H1, I1, r1, q1⟩ => ?_) hs
  exact store_g I1 hN hi hf r1 fun s2 g2 I2 => ⟨g2.trans g1, _, H1, I2, q1⟩
theorem pgg_name {i : Nat} {x : Str} (hN : X.N.Nodup) (hi : X.N[i]? = some x) (hx : Loc X.env.scope x) (hf : X.env.scope.names.lookup x = some .local := by rfl) : PGg X (.Name x pos) (gName i) := by
  refine ⟨fun pins s σ H v u Q I r h => ?_⟩
  exact wpAny_assign_Name (store_g I hN hi hf r fun s' g' I' => ⟨g', _, H, I', h⟩)
theorem pgsg_nil : PGsg X [] gNil := by
  refine ⟨fun pins s σ H vs us Q I r h => ?_⟩
  obtain ⟨e, h⟩ := h
  subst e
  cases r
  exact assignInOrder_nil ⟨rfl, σ, H, I, h⟩
theorem pgsg_cons {es : List Expr} {t : TG} {u : TGs} (h1 : PGg X e t) (h2 : PGsg X es u)
    (hs : (assignEach (e :: es) X.env).map (·.2) = assign e X.env :: (assignEach es X.env).map (·.2) := by rfl) : PGsg X (e :: es) (gCons t u) := by
  refine ⟨fun pins s σ H vs us Q I r h => ?_⟩
  obtain ⟨v, vr, e1, h⟩ := h
  subst e1
  cases r with
  | cons r rr =>
    rw [hs]
    refine assignInOrder_cons (thn (h1.run pins s σ H _ _ _ I r h) fun _ s1 ⟨g1, σ1, H1, I1, q1⟩ => ?_)
    exact thn (h2.run pins s1 σ1 H1 _ _ Q I1 rr q1) fun _ _ ⟨g2, q⟩ => ⟨g2.trans g1, q⟩
theorem pgg_tup {es : List Expr} {k : Nat} {t : TGs} {n : Nat} (hc : X.calm = true) (h : PGsg X es t)
    (hn : (assignEach es X.env).length = n := by rfl) (hst : (assignEach es X.env).findIdx? (·.1) = none := by rfl) : PGg X (.Tuple es k pos) (gTup X.K n t) := by
  refine ⟨fun pins s σ H v u Q I r hw => ?_⟩
  obtain ⟨a, xs, e1, hq, hl, hw⟩ := hw
  subst e1
  cases r
  obtain ⟨its, rv, ht, hz⟩ := I.tuple hq
  refine assign_Tuple_tuple (I.ok.hd hc) ht (by simp [hn, ← hl, rv.length]) hst fun h' hx => ?_
  have I1 : Inv X pins σ H { s with heap := h' } := I.kept (t' := s.toks) fun b o e => hx b o (Nat.ne_of_lt (Heap.lt_size e)) e
  exact h.run pins _ σ H xs _ Q I1 (by simpa using rv) hw
end
end S
namespace S
open PySem PySem.Spec PyProof.Rows L2
/-- + of two numbers -/
def oAddI : R2 := oI0 fun i j => i + j
end S
namespace S
open PySem PySem.Spec PyProof.Rows L2 GenW
section
variable {X : Cx} {pins : List (Addr × Obj)} {σ : L2.St} {H H' : Hp} {s s' : Shared}
theorem inv_gens (I : Inv X pins σ H s) {g : Nat} {x : GenState} (hx : x.bare = true) : Inv X pins σ H (s.setGen g x) :=
  ⟨I.ok, I.os, allBare_setGen I.bare hx, I.base, I.loc, I.cell, I.free, I.freeC, I.pin, I.hok, I.len⟩
theorem stk_mem (I : Inv X pins σ H s) {q : Addr} (h : q ∉ X.fs) (h2 : q ≠ X.env.locals) : q ∉ frs X.stack := fun z => (List.mem_cons.mp (I.stkSub q z)).elim h2 h
/-- behind a run that promises for the n oldest objects -/
theorem inv_far {n : Nat} (I : Inv X pins σ H s) (hx : ∀ b, b ∉ X.ex) (hL : X.env.locals < n) (hcell : ∀ x c, X.env.cells.lookup x = some c → c < n ∧ c ∉ frs X.stack) (hp : ∀ p ∈ X.pn ++ pins, p.1 < n) (u : Un (frs X.stack) [] H H' (cut0 s.heap n) s'.heap) (os : s'.os = s.os) (hok : HOk X.prog X.w H' s'.heap) (hb : AllBare s'.gens) :
    Inv X pins σ H' s' := by
  have ne : ∀ q : Addr, q ∉ ([] : List Addr) := fun q z => by cases z
  have old : ∀ {q : Addr} {o : Obj}, X.s_0.heap.get? q = some o → q < n := fun {q o} e => Nat.lt_of_lt_of_le (Heap.lt_size e) (Nat.le_trans I.ok.above (Nat.le_of_lt hL))
  have nl : ∀ {q : Addr} {o : Obj}, X.s_0.heap.get? q = some o → q ≠ X.env.locals := fun {q o} e => Nat.ne_of_lt (Nat.lt_of_lt_of_le (Heap.lt_size e) I.ok.above)
  obtain ⟨m, ⟨oL, es, ep, hoL, hd, hr⟩, hl⟩ := id I.loc
  obtain ⟨sl, hoL'⟩ := u.any (cut0_at hL hoL) I.free (ne _)
  have cellK : ∀ x c, X.env.cells.lookup x = some c → ∀ v, s.heap.IsCell c v → s'.heap.IsCell c v := fun x c e v ⟨o, ho, hdd⟩ => ⟨o, u.keep c o (cut0_at (hcell x c e).1 ho) (I.freeC x c e) (hcell x c e).2 (ne _), hdd⟩
  refine ⟨I.ok, os.trans I.os, hb, ⟨fun q o e h1 h2 h3 => ?_, fun q o e h1 h2 h3 => ?_, fun q o e h1 h3 => ?_, fun q o e h3 => ?_, fun q xs e => u.tups q xs (I.base.tups q xs e), fun q o w e => u.frzs q o w (I.base.frzs q o w e), fun q ps e => ?_⟩, ⟨m, ⟨_, es, ep, hoL', hd, hr⟩, fun i x v e1 e2 e3 => ?_⟩, fun x c e => ?_, ?_, fun x c e => ?_, fun p h => ?_, hok, I.len⟩
  · exact u.keep q o (cut0_at (old e) (I.base.keep q o e h1 h2 h3)) (I.base.free q o e h1 h3) (stk_mem I h2 (nl e)) (ne _)
  · obtain ⟨sl1, e1⟩ := I.base.slot q o e h1 h2 h3
    obtain ⟨sl2, e2⟩ := u.any (cut0_at (old e) e1) (I.base.free q o e h1 h3) (ne _)
    exact ⟨sl2, e2⟩
  · obtain ⟨o', e1⟩ := I.base.there q o e h3
    exact u.free q o' (cut0_at (old e) e1) (I.base.free q o e h1 h3) (ne _)
  · obtain ⟨o', e1⟩ := I.base.there q o e h3
    exact u.there q o' (cut0_at (old e) e1) (ne _)
  · obtain ⟨m1, e1⟩ := I.base.tbls q ps e
    obtain ⟨m2, e2⟩ := u.tbls q _ e1
    exact ⟨m1 ++ m2, by rw [e2, Array.append_assoc]⟩
  · obtain ⟨u', r, l⟩ := hl i x v e1 e2 e3
    exact ⟨u', r, l.imp (fun z => z) fun ⟨k, c, e, z⟩ => ⟨k, c, e, cellK x c e _ z⟩⟩
  · obtain ⟨v, z⟩ := I.cell x c e
    exact ⟨v, cellK x c e v z⟩
  · exact u.free _ oL (cut0_at hL hoL) I.free (ne _)
  · obtain ⟨v, o, ho, _⟩ := I.cell x c e
    exact u.free c o (cut0_at (hcell x c e).1 ho) (I.freeC x c e) (ne _)
  · obtain ⟨k1, k2, k3, k4, k5⟩ := I.pin p h
    exact ⟨u.keep p.1 p.2 (cut0_at (hp p h) k1) k2 (stk_mem I k4 k3) (ne _), u.free p.1 p.2 (cut0_at (hp p h) k1) k2 (ne _), k3, k4, k5⟩
end
/-- a generator that a loop walks -/
abbrev TGenF := TurnK → (List V → Hp → Prop) → L2.St → Hp → Prop
structure PGenF (X : Cx) (k : Nat) (e : Expr) (tg : TGenF) : Prop where
  run : ∀ (pins : List (Addr × Obj)) (s : Shared) (σ : L2.St) (H : Hp) (Kc : TurnK) (Q : List V → Hp → Prop), Inv X pins σ H s → tg Kc Q σ H →
    wpAny (model X.prog X.w) X.A (eval e X.env) (fun u s' => ∃ H1 sc, Inv X pins σ H1 sc ∧ GMadeF X.prog X.w X.K X.mg X.base k X.stack H1 sc Kc Q u s') X.xe s
/-- o.m(), o an instance with slots -/
def tMethFS (K : Frag) (c : Str) (sp : SpF) (ta : TE) : TGenF := fun Kc Q σ H => ta σ H fun x H1 => match x with
  | .ref a => IsO K H1 c a (sp [.ref a] H1 Kc Q)
  | _ => False
theorem pgenF_meth0 {X : Cx} {k : Nat} {g : Addr} {sp : SpF} {c m : Str} {pos apos : Pos} {o : Expr} {ta : TE} {pl : Sem Bool} (hc : SlX.SCls X.K (He.ga X.K c)) (hm : Meth X.K (He.ga X.K c) m g) (F : GFF X.prog X.w X.K X.mg X.base k g sp) (hr : Room k X.A) (he : PE X o ta)
    (ht : eval (.Call (.Attribute o m apos) [] [] pos) X.env = (do
      let ov ← eval o X.env
      standAt apos.atName
      let (f, first) ← holding [ov] (getMethod ov m pl)
      callWith pos f first (backTo pos (starEach [] X.env)) (backToKw pos (keywordEach [] X.env))) := by rfl) :
    PGenF X k (.Call (.Attribute o m apos) [] [] pos) (tMethFS X.K c sp ta) := by
  refine ⟨fun pins s σ H Kc Q I h => ?_⟩
  refine PySem.W.methodCall_KW (pl := pl) (thn (he.run pins s σ H _ I h) fun u s1 ⟨x, H1, I1, rx, q⟩ => ?_) ht
  cases x <;> try exact q.elim
  cases rx
  obtain ⟨⟨dx, vs, hsl⟩, q⟩ := q
  refine SlX.getmethsl_ok I1 hsl hc hm ?_
  refine PySem.W.callWith_K0 (first := [.ref _]) I1.kIn hm.kp (wpAny_call (codeAny_mono (F.run X.A X.stack s1 H1 [.ref _] [.ref _] Kc Q hr I1.env0 (.cons rfl .nil) q) fun r s2 hq => ?_))
  cases r with
  | error e => exact False.elim hq
  | ok fl =>
    cases fl with
    | ret u => exact ⟨H1, s1, I1, hq⟩
    | next => exact False.elim hq
    | brk => exact False.elim hq
    | cont => exact False.elim hq
/-- the loop: W tells the slots by what was handed out -/
structure LpF (tg : TGenF) (g : TG) (tb : TS) (D : Ends) (σ : L2.St) (H : Hp) : Prop where
  ex : ∃ W : List V → L2.St → Prop, W [] σ ∧ tg (fun ys x H1 post => ∀ σ1, W ys σ1 → g x σ1 H1 fun σ2 H2 => tb { D with nx := fun σ3 H3 => W (ys ++ [x]) σ3 ∧ post H3, ct := fun σ3 H3 => W (ys ++ [x]) σ3 ∧ post H3, bk := D.nx } σ2 H2) (fun ys H1 => ∀ σ1, W ys σ1 → D.nx σ1 H1) σ H
def dForF (tg : TGenF) (g : TG) (tb : TS) : TS := fun D σ H => LpF tg g tb D σ H
theorem ps_forF {X : Cx} {k : Nat} {tgt iter : Expr} {body : List Stmt} {tg : TGenF} {g : TG} {tb : TS} {pos : Pos} (hp : PassesOwn (model X.prog X.w) X.A X.env X.xe) (hc : X.calm = true) (hi : PGenF X k iter tg) (hr : Room (k + 1) X.A) (hg : PGg X tgt g) (hb : PSsg X body tb) (hnc : ∀ x, X.env.cells.lookup x = none)
    (hst : X.stack = X.env :: X.outer := by rfl) (hfr : X.env.frame = some X.env.locals := by rfl) (hex : X.ex = [] := by rfl) (hs : ∀ x, foldedSetIterable iter X.env x = pure x := by intro _; rfl) : PS X (.For tgt iter body [] pos) (dForF tg g tb) := by
  refine ⟨fun pins s σ H D I h => ?_⟩
  obtain ⟨W, w0, h⟩ := h.ex
  refine wpAny_For (thn (hi.run pins s σ H _ _ I h) fun u s1 ⟨H1, sc, I1, hG⟩ => ?_) hs
  obtain ⟨a, gn, c, rfl, ha, hgen, hgs, hos, hbare, hlim, hkp, wake⟩ := hG
  refine wpAny_pyIter_gen hgen ?_
  have hx : ∀ b, b ∉ X.ex := fun b z => by rw [hex] at z; cases z
  have mF : ∀ q, q ∈ X.env.locals :: X.fs → q ∈ frs X.stack := fun q hq => by
    rw [hst]
    unfold frs
    rw [List.filterMap_cons, hfr]
    exact hq
  have hL : X.env.locals < sc.heap.objs.size := I1.lt
  have hcell : ∀ x c, X.env.cells.lookup x = some c → c < sc.heap.objs.size ∧ c ∉ frs X.stack := fun x c e => by rw [hnc] at e; cases e
  have hpn : ∀ p ∈ X.pn ++ pins, p.1 < sc.heap.objs.size := fun p hp => Heap.lt_size (I1.pin p hp).1
  have I2 : Inv X pins σ H1 s1 := I1.call' (ch := []) hos (Un.kept hkp) (I1.hok.kept hkp) hbare fun b z => by simp at z
  have hr1 : Room k X.A.in1 := hr.in1
  have hdp : X.A.depth < recursionLimit := by have := hr.dp; omega
  refine codeAny_forLoop_any (fun n s' => ∃ ys σ' H' gs, Inv X pins σ' H' s' ∧ W ys σ' ∧ s'.heap.IsGen a gn ∧ s'.gens[gn]? = some gs ∧
    gs.Goes (model X.prog X.w) X.A.in1 (REnF X.prog X.w X.stack sc.heap.objs.size (fun ys s H => ∃ σ, Inv X pins σ H s ∧ W ys σ) (fun ys H1 => ∀ σ1, W ys σ1 → D.nx σ1 H1))
      (YItF X.prog X.w X.base X.stack sc.heap.objs.size a gn (fun ys s H => ∃ σ, Inv X pins σ H s ∧ W ys σ) (fun ys x H1 post => ∀ σ1, W ys σ1 → g x σ1 H1 fun σ2 H2 => tb { D with nx := fun σ3 H3 => W (ys ++ [x]) σ3 ∧ post H3, ct := fun σ3 H3 => W (ys ++ [x]) σ3 ∧ post H3, bk := D.nx } σ2 H2)) n (.send .none) (s'.setGen gn .running)) ?_ sizeLine ?_
  · rintro n s3 ⟨ys, σ3, H3, gs, I3, w3, hg3, hgs3, hgo⟩
    have hgl : gn < s3.gens.size := (Array.getElem?_eq_some_iff.mp hgs3).1
    refine wpAny_gsz (n := gn + 1) hgl (next_genG (I3.ok.hd hc) I3.nolimit hdp hg3 hgs3 hgo (fun v s4 gs' hbr hy => ?_) (fun s4 hf h' hk => ?_) fun e s4 he => he.elim)
    · intro hsz
      obtain ⟨ys', x, H0, H4, gp, post, hn, rv, ⟨σ0, J0, w0'⟩, os4, b4, lim4, gen4, un4, hok4, hgp, ⟨ao, hao⟩, hk, hw⟩ := hy
      have sz4 : gn < (s4.setGen gn gs').gens.size := hsz
      have J1 : Inv X pins σ0 H4 s4 := inv_far J0 hx hL hcell hpn un4 os4 hok4 b4
      have J2 : Inv X pins σ0 H4 (s4.setGen gn gs') := inv_gens J1 hbr
      have J3 : Inv X (pins ++ gp) σ0 H4 (s4.setGen gn gs') := J2.pins_of fun p hp => by
        rcases List.mem_append.mp hp with z | z
        · exact J2.pin p (List.mem_append_right _ z)
        · obtain ⟨q1, q2, q3, q4⟩ := hgp p z
          exact ⟨q1, q2, fun e => q3 (mF _ (by rw [e]; exact List.mem_cons_self)), fun e => q3 (mF _ (List.mem_cons_of_mem _ e)), q4⟩
      obtain ⟨o, nm, qn, ho, hcls, hdat, hsl⟩ := id gen4
      refine go_of (n := "generator") (by exact ho) hcls hdat (by decide) ?_
      refine wpAny_passesOwn hp (thn (hg.run _ _ σ0 H4 x v _ J3 rv (hk σ0 w0')) fun _ s5 ⟨g5, σ5, H5, I5, q5⟩ => ?_)
      refine wpAny_passesOwn hp (thn (hb.run _ s5 σ5 H5 _ I5 q5) fun f s6 ⟨g6, q6⟩ => ?_)
      have gg : s6.gens = (s4.setGen gn gs').gens := g6.trans g5
      have again : ∀ {σ7 : L2.St} {H7 : Hp}, Inv X (pins ++ gp) σ7 H7 s6 → W (ys' ++ [x]) σ7 ∧ post H7 → ∃ m, m < n ∧ ∃ ys σ' H' gs, Inv X pins σ' H' s6 ∧ W ys σ' ∧ s6.heap.IsGen a gn ∧ s6.gens[gn]? = some gs ∧
          gs.Goes (model X.prog X.w) X.A.in1 (REnF X.prog X.w X.stack sc.heap.objs.size (fun ys s H => ∃ σ, Inv X pins σ H s ∧ W ys σ) (fun ys H1 => ∀ σ1, W ys σ1 → D.nx σ1 H1))
            (YItF X.prog X.w X.base X.stack sc.heap.objs.size a gn (fun ys s H => ∃ σ, Inv X pins σ H s ∧ W ys σ) (fun ys x H1 post => ∀ σ1, W ys σ1 → g x σ1 H1 fun σ2 H2 => tb { D with nx := fun σ3 H3 => W (ys ++ [x]) σ3 ∧ post H3, ct := fun σ3 H3 => W (ys ++ [x]) σ3 ∧ post H3, bk := D.nx } σ2 H2)) m (.send .none) (s6.setGen gn .running) := by
        intro σ7 H7 I7 ⟨w7, p7⟩
        have I8 : Inv X pins σ7 H7 s6 := I7.unpinned
        have I9 : Inv X pins σ7 H7 (s6.setGen gn .running) := inv_gens I8 rfl
        have pin : ∀ p ∈ gp, s6.heap.get? p.1 = some p.2 ∧ H7 p.1 = none := fun p hp => by
          obtain ⟨k1, k2, _⟩ := I7.pin p (List.mem_append_right _ (List.mem_append_right _ hp))
          exact ⟨k1, k2⟩
        have e0 := I9.env0
        have wk : Wok0 X.prog X.w X.base X.stack gp (s6.setGen gn .running) H7 := ⟨e0.bare, e0.bs, e0.bsz, e0.funs, e0.frf, e0.hok, pin⟩
        have fin := hw (s6.setGen gn .running) H7 wk ⟨σ7, I9, w7⟩ p7
        cases n with
        | zero => exact fin.elim
        | succ m =>
          refine ⟨m, Nat.lt_succ_self _, ys' ++ [x], σ7, H7, gs', I8, w7, ?_, ?_, fin⟩
          · have k1 := (pin (a, ao) hao).1
            have k2 := (hgp (a, ao) hao).1
            have k2 : s4.heap.get? a = some ao := k2
            rw [ho] at k2
            cases k2
            exact ⟨_, nm, qn, k1, hcls, hdat, hsl⟩
          · rw [gg]
            exact setGen_at (by rw [setGen_size] at sz4; exact sz4)
      cases f with
      | next => obtain ⟨σ7, H7, I7, n7⟩ := q6; exact again I7 n7
      | cont => obtain ⟨σ7, H7, I7, n7⟩ := q6; exact again I7 n7
      | brk => obtain ⟨σ7, H7, I7, q7⟩ := q6; exact ⟨σ7, H7, I7.unpinned, q7⟩
      | ret v => obtain ⟨x7, σ7, H7, I7, r7, q7⟩ := q6; exact ⟨x7, σ7, H7, I7.unpinned, r7, q7⟩
    · intro hsz
      obtain ⟨ys', H0, H4, ⟨σ0, J0, w0'⟩, os4, b4, un4, hok4, hQ⟩ := hf
      have J1 : Inv X pins σ0 H4 s4 := inv_far J0 hx hL hcell hpn un4 os4 hok4 b4
      have J2 : Inv X pins σ0 H4 (s4.setGen gn .finished) := inv_gens J1 rfl
      exact wpAny_execs_nil ⟨σ0, H4, J2.kept (h' := h') (t' := s4.toks) hk, hQ σ0 w0'⟩
  · refine ⟨[], σ, H1, .fresh c, I2, w0, hgen, hgs, rfl, ?_⟩
    have I3 : Inv X pins σ H1 (s1.setGen gn .running) := inv_gens I2 rfl
    refine wake X.A.in1 _ (s1.setGen gn .running) hr1 I1.ok.frames ?_ rfl rfl ⟨σ, I3, w0⟩
    have e0 := I3.env0
    exact ⟨e0.frames, e0.mod, e0.bs, e0.bsz, e0.funs, e0.frf, e0.hok, e0.bare⟩
end S
namespace S
open PySem PySem.Spec PyProof.Rows L2
end S
namespace S
open PySem PySem.Spec PyProof.Rows L2
open Sem (wp)
/-! ### what is gone stays gone -/
/-! ### a tuple's iterator -/
section
variable {X : Cx} {k : Nat} {g : Addr} {sp : Sp} {c : Str} {ups fs : List Str} {a : Addr}
end
end S
namespace S
open PySem PySem.Spec PyProof.Rows L2
open Sem (wp)
section
variable {X : Cx} {k : Nat} {g : Addr} {sp : Sp} {c : Str} {ups fs : List Str} {a : Addr}
end
end S
namespace S
open PySem PySem.Spec PyProof.Rows L2
end S
namespace S
open PySem PySem.Spec PyProof.Rows L2
abbrev Rw : Type := V × List Int
def leR (p q : Rw) : Bool := decide (p.2 ≤ q.2)
theorem tupLe : PySem.W.dataLe false (fun b : Rw => .tuple (b.2.map .int)) = leR := by
  funext p q
  show (!PySem.W.dataLt (.tuple (q.2.map .int)) (.tuple (p.2.map .int))) = _
  rw [PySem.W.dataLt_tuple]
  show (!PySem.W.rowLt (q.2.map .int) (p.2.map .int)) = _
  rw [PySem.W.dataLt_ints]
  unfold leR
  by_cases h : q.2 < p.2
  · have h' : ¬ p.2 ≤ q.2 := fun r => List.not_lt.mpr r h
    simp [h, h']
  · have h' : p.2 ≤ q.2 := List.not_lt.mp h
    simp [h, h']
theorem each_of : ∀ {bs : List Rw} {us : List Value}, Vals (bs.map (·.1)) us → PySem.W.EachIs (fun u (b : Rw) => L2.RelV b.1 u) us bs
  | [], _, .nil => .nil
  | _ :: _, _, .cons h t => .cons h (each_of t)
theorem of_each : ∀ {bs : List Rw} {us : List Value}, PySem.W.EachIs (fun u (b : Rw) => L2.RelV b.1 u) us bs → Vals (bs.map (·.1)) us
  | [], _, .nil => .nil
  | _ :: _, _, .cons h t => .cons h (of_each t)
theorem dpAll_ints {K : Frag} {H : Hp} : ∀ ns : List Int, DpAll K H (ns.map V.int) (ns.map PyData.int)
  | [] => .nil
  | n :: ns => .cons (.int n) (dpAll_ints ns)
theorem leR_trans (a b c : Rw) (h1 : leR a b = true) (h2 : leR b c = true) : leR a c = true := decide_eq_true (List.le_trans (of_decide_eq_true h1) (of_decide_eq_true h2))
theorem leR_total (a b : Rw) : (leR a b || leR b a) = true := by
  rcases List.le_total a.2 b.2 with h | h
  · simp [leR, h]
  · simp [leR, h]
structure SrtT (K : Frag) (H : Hp) (p : Addr) (Q : VK) : Prop where
  ex : Srt K H p Q ∨ ∃ bs : List Rw, SqL K H p (bs.map (·.1)) ∧ (∀ b ∈ bs, b.2 ≠ [] ∧ ∃ t, b.1 = .ref t ∧ SqT K H t (b.2.map V.int)) ∧
    ∀ (cs : List Rw) (q : Addr), cs.Perm bs → cs.Pairwise (fun p q => p.2 ≤ q.2) → H q = none → Q (.ref q) (upd H q (.lst (cs.map (·.1))))
def cSortedT (K : Frag) : List V → Hp → VK → Prop := fun xs H Q => match xs with
  | [.ref p] => SrtT K H p Q
  | _ => False
theorem c_sortedT {X : Cx} (hu : X.A.units + 64 < cLine) : CallR X (.builtin "sorted") (cSortedT X.K) := by
  intro pins s σ H xs us Q I r h
  match xs, h with
  | [.ref p], ⟨h⟩ =>
  rcases h with h | ⟨bs, hs, hb, q⟩
  · exact c_sorted pins s σ H [.ref p] us Q I r h
  obtain ⟨its, rv, hl, hz⟩ := I.list hs
  obtain ⟨u, rfl, ru⟩ := r.one
  cases ru
  rw [List.length_map] at hz
  have lv := rv.length
  rw [List.length_map] at lv
  have er : PySem.W.EachIs (fun v (b : Rw) => ∃ as, Reads s.heap v (.tuple (b.2.map .int)) as) its bs := by
    have e := each_of rv
    have go : ∀ {us : List Value} {cs : List Rw}, PySem.W.EachIs (fun u (b : Rw) => L2.RelV b.1 u) us cs → (∀ b ∈ cs, b ∈ bs) → PySem.W.EachIs (fun v (b : Rw) => ∃ as, Reads s.heap v (.tuple (b.2.map .int)) as) us cs := by
      intro us cs e
      induction e with
      | nil => exact fun _ => .nil
      | cons h t ih =>
        intro hm
        refine .cons ?_ (ih fun b hb => hm b (List.mem_cons_of_mem _ hb))
        obtain ⟨_, t, et, ht⟩ := hb _ (hm _ (List.mem_cons_self ..))
        exact Dp.reads I _ _ _ (by rw [et]; exact .tup ht (dpAll_ints _)) h
    exact go e fun _ h => h
  refine PySem.W.sorted_data (enc := fun b : Rw => .tuple (b.2.map .int)) hl.isList (each_of rv) er (PySem.W.AllAlike.of fun b b' => ?_) (.inl fun d hd => ?_) hz (fun b hb => ?_) fun out h1 h2 => ?_
  · have := PySem.W.alike_ints b.2 b'.2
    simpa [PySem.W.alike] using this
  · obtain ⟨b, hm, rfl⟩ := List.mem_map.mp hd
    obtain ⟨ne, _⟩ := hb b hm
    match hbb : b.2 with
    | [] => exact absurd hbb ne
    | x :: r => exact ⟨.int x, r.map .int, rfl⟩
  · have hd : (PyData.tuple (b.2.map .int)).depth ≤ 8 := by
      simp only [PyData.depth, PySem.W.depth_ints]
      omega
    omega
  · rw [tupLe] at h2
    obtain ⟨ep, he'⟩ := PyProof.Rows.sortedAll_at s.heap its out.toArray
    have hp := List.mergeSort_perm bs leR
    have hlen : ((bs.mergeSort leR).map (·.1)).length ≤ sizeLine := by
      rw [List.length_map, hp.length_eq]
      exact hz
    refine ⟨.ref _, upd H (s.heap.objs.size + 1) (.lst ((bs.mergeSort leR).map (·.1))), I.laid (t' := s.toks) (fun _ _ => PyProof.Rows.sortedAll_old) (Nat.le_succ _) ⟨hlen, out, ep, of_each h2, he'⟩, rfl, q _ _ hp ?_ (I.hok.fresh (Nat.le_succ _))⟩
    exact (List.pairwise_mergeSort leR_trans leR_total bs).imp fun h => of_decide_eq_true h
end S
namespace S
open PySem PySem.Spec PyProof.Rows L2
end S
namespace S
open PySem PySem.Spec PyProof.Rows L2
/-! ### a text walked -/
/-! ### sorted(set(..)) of a list or a tuple -/
section
variable {P : Program} {w : World} {A : Around} {E : Value → Shared → Prop} {s : Shared}
end
section
variable {X : Cx}
end
/-! ### except clauses without a name -/
end S
namespace S
open PySem PySem.Spec PyProof.Rows L2
end S
namespace S
open PySem PySem.Spec PyProof.Rows L2
end S
namespace S
open PySem PySem.Spec PyProof.Rows L2
end S
namespace S
open PySem PySem.Spec PyProof.Rows L2
end S
namespace S
open PySem PySem.Spec PyProof.Rows L2
section
variable {X : Cx} {elt tg iter tg1 iter1 : Expr} {ifs ifs1 : List Expr} {scope : Scope} {own : List (Str × Nat)} {vs1 : List Nat} {pos spos : Pos} {wi wi1 : TI} {g g1 : TG} {tt tt1 : TT} {te : TE}
end
end S
namespace S
open PySem PySem.Spec PyProof.Rows L2
end S
namespace S
open PySem PySem.Spec PyProof.Rows L2
end S
namespace S
open PySem PySem.Spec PyProof.Rows L2
/-! ### a new one -/
/-! ### d[k] -/
/-! ### k in d -/
/-! ### d[k] = v -/
/-! ### d.get(k, x) -/
/-! ### tuples whose very object is known -/
/-! ### dict(a tuple of pairs), dict(a list of pairs), dict(a dict) -/
end S
namespace S
open PySem PySem.Spec PyProof.Rows L2
/-! ### sorted(list of numbers | list of texts | dict of texts) -/
/-! ### list(sequence | dict) -/
/-! ### {k: v} -/
/-! ### {k: v for ..} -/
/-! ### for k in d -/
end S
namespace S
open PySem PySem.Spec PyProof.Rows L2
section
variable {X : Cx} {c : Str} {g : Addr} {k : Nat} {sp : Sp} {E : XK}
end
end S
namespace S
open PySem PySem.Spec PyProof.Rows L2
section
variable {P : Program} {w : World} {K : Frag} {mg : Str → Option Value} {base : Heap} {c nm qual : Str} {params : Arguments} {body rest : List Stmt} {scope : Scope} {fI g : Addr} {p0 p1 p2 p4 p5 : Pos} {e : Expr} {es : List Expr} {N ps : List Str} {self0 : Str} {k : Nat} {sp sp0 : Sp} {ta : XK → TA} {tr : XK → TS} {pl : Env → Sem Bool}
end
/-! ### such a def in the head -/
end S
namespace S
open PySem PySem.Spec PyProof.Rows L2
section
variable {X : Cx} {k : Nat} {cs : List Str} {sp : Str → Sp} {E : L2.St → XK} {x m : Str} {p pos apos : Pos} {e o : Expr} {es : List Expr} {t : TA} {ta : TE}
end
theorem FR.none {P : Program} {w : World} {K : Frag} {mg : Str → Option Value} {base : Heap} {k : Nat} {f : Addr} {sp : Sp} (h : ∀ vs H Q E, ¬ sp vs H Q E) : FR P w K mg base k f sp := fun _ _ _ _ _ _ _ _ _ _ _ hs => (h _ _ _ _ hs).elim
end S
namespace S
open PySem PySem.Spec PyProof.Rows L2
section
open PySem.W
variable {prog : Program} {w : World} {A : Around} {E : Value → Shared → Prop} {s : Shared} {K : Frag} {x y C C2 L f f2 : Addr} {h₀ : Heap} {m : Str → Option Value} {ox oy : Obj} {od oe : Option Obj}
end
section
variable {X : Cx} {k : Nat} {cs : List Str} {sp : Str → Sp} {E : XK} {m : Str}
end
end S
namespace S
open PySem PySem.Spec PyProof.Rows L2
end S
namespace S
open PySem PySem.Spec PyProof.Rows L2
end S
namespace S
open PySem PySem.Spec PyProof.Rows L2
section
variable {X : Cx} {k : Nat} {g : Addr} {sp : Sp} {E : XK} {c : Str} {ups : List Str} {tys : List String}
end
/-! ### tuple displays as tracked tuples -/
/-! ### dicts whose keys are tuples -/
end S
namespace S
open PySem PySem.Spec PyProof.Rows L2
section
variable {X : Cx} {k : Nat} {g : Addr} {sp : Sp} {E : L2.St → XK} {c : Str} {ups : List Str} {tys : List String}
end
/-! i | j of numbers -/
def oOr : R2 := oI0 fun i j => Builtin.bitOr i j
theorem o_or {X : Cx} : OpR X (binaryOp .BitOr) oOr := oI0_of op_or
end S
namespace S
open PySem PySem.Spec PyProof.Rows L2
section
variable {P : Program} {w : World} {K : Frag} {mg : Str → Option Value} {base : Heap} {CX : CXT} {c fld fld2 nm qual par par2 msg : Str} {params : Arguments} {body : List Stmt} {scope : Scope} {fI : Addr} {fd : FuncData} {p0 p1 p2 p3 p4 p5 p6 p7 p8 p9 q6 q7 q8 q9 : Pos} {j : Nat}
end
end S
namespace S
open PySem PySem.Spec PyProof.Rows L2
end S
namespace S
open PySem PySem.Spec PyProof.Rows L2
end S
namespace S
open PySem PySem.Spec PyProof.Rows L2
end S
namespace S
open PySem PySem.Spec PyProof.Rows L2
end S
namespace S
open PySem PySem.Spec PyProof.Rows L2
end S
namespace S
open PySem PySem.Spec PyProof.Rows L2
end S
namespace S
open PySem PySem.Spec PyProof.Rows L2
section
variable {P : Program} {w : World} {A : Around} {E : Value → Shared → Prop} {s : Shared}
end
section
variable {X : Cx}
end
end S
namespace S
open PySem PySem.Spec PyProof.Rows L2
end S
namespace S
open PySem PySem.Spec PyProof.Rows L2
/-! ### kinds of keys -/
structure Dk (κ : Type) [DecidableEq κ] where
  kd : ∀ (P : Program) (w : World), KeyKind P w κ
  kv : κ → V
  rel : ∀ P w k u, (kd P w).is k u = true ↔ RelV (kv k) u
  conv : ∀ {P w P' w'} {h : Heap} {a : Addr} {vs : List (κ × Value)}, h.DictOf (kd P w) a vs → h.DictOf (kd P' w') a vs
section
variable {κ : Type} [DecidableEq κ] {k : Dk κ} {P : Program} {w : World} {H : Hp} {h : Heap} {a : Addr} {kvs : List (κ × V)} {vs : List (κ × Value)}
end
section
variable {X : Cx} {κ : Type} [DecidableEq κ] {k : Dk κ} {pins : List (Addr × Obj)} {σ : L2.St} {H : Hp} {s : Shared} {a : Addr} {kvs : List (κ × V)} {A : Around} {E : Value → Shared → Prop}
end
/-! ### a new one, of whatever keys -/
/-! ### d.setdefault(y, z): what is there; the heap behind it if nothing is -/
section
variable {X : Cx} {pins : List (Addr × Obj)} {σ : L2.St} {H : Hp} {s : Shared} {a : Addr} {A : Around} {E : Value → Shared → Prop}
end
/-! ### len(d) -/
/-! ### list(d) -/
/-! ### for x in reversed(a) -/
/-! ### d[i], i a number -/
end S
namespace S
open PySem PySem.Spec PyProof.Rows L2
end S
namespace S
open PySem PySem.Spec PyProof.Rows L2
end S
namespace S
open PySem PySem.Spec PyProof.Rows L2
section
variable {X : Cx} {pins : List (Addr × Obj)} {σ : L2.St} {H : Hp} {s : Shared} {u v : Bool} {a b : Addr} {xs ys : List V}
end
/-! ### a new zip -/
end S
namespace S
open PySem PySem.Spec PyProof.Rows L2
section
variable {prog : Program} {w : World} {A : Around} {E : Value → Shared → Prop} {s : Shared}
end
/-! ### pairs (text, number) -/
end S
namespace S
open PySem PySem.Spec PyProof.Rows L2
end S
namespace S
open PySem PySem.Spec PyProof.Rows L2
end S
namespace S
open PySem PySem.Spec PyProof.Rows L2
end S
namespace S
open PySem PySem.Spec PyProof.Rows L2
end S
namespace S
open PySem PySem.Spec PyProof.Rows L2
end S
namespace S
open PySem PySem.Spec PyProof.Rows L2
/-! ### for k in EXPR -/
/-! ### d[k] = v -/
/-! ### d.get(k, x) -/
end S
namespace S
open PySem PySem.Spec PyProof.Rows L2
section
variable {P : Program} {w : World} {K : Frag} {mg : Str → Option Value} {base : Heap}
end
section
variable {X : Cx} {x : Str} {p pos : Pos} {k : Nat} {g : Addr} {sp : Sp} {E : L2.St → XK}
end
end S
namespace S
open PySem PySem.Spec PyProof.Rows L2
/-! ### // by any divisor but 0 -/
end S
namespace S
open PySem PySem.Spec PyProof.Rows L2
end S
namespace S
open PySem PySem.Spec PyProof.Rows L2
end S
namespace S
open PySem PySem.Spec PyProof.Rows L2
section
variable {M : Model} {A : Around} {E : Value → Shared → Prop} {s : Shared}
end
/-- the context of such a def's body: the cells of its own names may be stored to -/
def cx2 (CX : CXT) (P : Program) (w : World) (K : PySem.W.Frag) (mg : Str → Option Value) (base : Heap) (N : List Str) (F : NdefX.NF) (f : Addr) (A : Around) (outer : List Env) (s : Shared) (H : Hp) (E : XK) : Cx :=
  { NdefX.ncx CX P w K mg base N F f A outer s H E with fn := fun y => y != ("__class__" : Str) }
section
variable {CX : CXT} {P : Program} {w : World} {K : PySem.W.Frag} {mg : Str → Option Value} {base : Heap} {N ps fr : List Str} {F : NdefX.NF} {f : Addr} {A : Around} {outer : List Env} {s : Shared} {H : Hp} {E : XK} {us : List Value} {vs : List V} {ws : List (Option V)}
end
section
variable {P : Program} {w : World} {K : Frag} {mg : Str → Option Value} {base : Heap} {c nm qual : Str} {params : Arguments} {body rest : List Stmt} {s0 : Stmt} {scope : Scope} {fI g : Addr} {p0 p1 p2 p4 p5 : Pos} {e : Expr} {es : List Expr} {N ps : List Str} {self0 : Str} {k : Nat} {sp sp0 : Sp} {ta : XK → TA} {t0 tr : XK → TS} {pl : Env → Sem Bool}
end
end S


/-! ## short tactics (local rows) -/
open PySem PySem.Spec PyProof.Rows L2 S in
local macro_rules | `(tactic| walk_at "ne") => `(tactic| first | assumption | (apply Ne.symm; assumption) | (apply ne_of_none <;> assumption))
open PySem PySem.Spec PyProof.Rows L2 S in
local macro_rules | `(tactic| walk_at "hp") => `(tactic| first | assumption | exact upd_same | (refine' up_of ?n1 ?h1; (case n1 => walk_at "ne"); (case h1 => walk_at "hp")))
open PySem PySem.Spec PyProof.Rows L2 S in
local macro_rules | `(tactic| walk_at "sx") => `(tactic| first | assumption | exact SameX.refl _ _ | (refine' SameX.put ?h1; (case h1 => walk_at "sx")))
open PySem PySem.Spec PyProof.Rows L2 S in
local macro_rules | `(tactic| walk_at "sl") => `(tactic| first | assumption | (refine' appS ?h1 ?e1; (case h1 => assumption); (case e1 => walk_at "sx")) | (refine' sl_upd ?h1 ?n1; (case n1 => walk_at "ne"); (case h1 => walk_at "sl")))
open PySem PySem.Spec PyProof.Rows L2 S in
local macro_rules | `(tactic| walk_at "st") => `(tactic| first | assumption | (refine' st_upd ?h1 ?n1; (case n1 => walk_at "ne"); (case h1 => walk_at "st")))
open PySem PySem.Spec PyProof.Rows L2 S in
local macro_rules | `(tactic| walk_at "ar") => `(tactic| first | omega | decide | (exact ⟨by decide, by decide⟩) | (exact ⟨by decide, by decide, by decide⟩) | (simp only [CDiv, CPow, CMul]; omega) | (exact .inl (by omega)) | (exact .inr (by omega)) | (simp only [sizeLine_eq, List.length_map, List.length_cons, List.length_nil, List.length_append, List.length_reverse]; omega))
open PySem PySem.Spec PyProof.Rows L2 S in
local macro_rules | `(tactic| walk_at "rd") => `(tactic| first
  | (refine' Rd.l ?h1 ?h2; (case h1 => walk_at "hp"))
  | (refine' Rd.sl ?h1 ?h2; (case h1 => walk_at "sl"))
  | (refine' Rd.st ?h1 ?h2; (case h1 => walk_at "st"))
  | (refine' Rd.sa ?h1 ?h2; (case h1 => assumption))
  | (refine' S.At.of ?h1 ?h2; (case h1 => (first | rfl | assumption)))
  | (refine' Ls.of ?h1 ?h2; (case h1 => walk_at "hp"))
  | (refine' IsL.of ?h1 ?h2; (case h1 => walk_at "hp"))
  | (refine' Pl.of ?h1 ?h2; (case h1 => rfl))
  | (refine' Need.mk ?h1 ?h2; (case h1 => walk_at "ar")))
open PySem PySem.Spec PyProof.Rows L2 S in
local macro_rules | `(tactic| walk_at "go") => `(tactic| (repeat walk_at "rd"))
open PySem PySem.Spec PyProof.Rows L2 S in
local macro_rules | `(tactic| walk_at "gx") => `(tactic| (repeat (first | walk_at "rd" | refine' Stop.mk ?_)))
/-! ## the laws' own harness: draws -/
namespace S
open PySem PySem.Spec PyProof.Rows L2
theorem at_ints {ns : List Int} {i : Int} (h0 : 0 ≤ i) (h1 : i < ns.length) : ∃ x, atI (ns.map V.int) i = some (.int x) := by
  obtain ⟨j, rfl⟩ := Int.eq_ofNat_of_zero_le h0
  have hl : j < ns.length := by omega
  refine ⟨ns[j], atI_nat ?_⟩
  rw [List.getElem?_map, List.getElem?_eq_getElem hl]
  rfl
/-- the state of the draws: place, left, number, kind -/
def DrawSt (l : List V) : Prop := ∃ a b n k : Int, l = [.int a, .int b, .int n, .int k] ∧ 0 ≤ a ∧ 0 ≤ n ∧ (b = 0 ∨ k = 2 ∨ n < 10 ^ 18)
/-- the script at a: the calls leave it -/
def ScrAt (K : Frag) (H : Hp) (a st : Addr) (ns : List Int) : Prop := (a ≠ st ∧ SqL K H a (ns.map V.int)) ∨ ∀ H', SqL K H' a (ns.map V.int)
/-- the script at a, the state at st -/
structure Ctx (K : Frag) (H : Hp) (a st : Addr) : Prop where
  scr : ∃ ns : List Int, ScrAt K H a st ns
  stt : ∃ l, H st = some (.lst l) ∧ DrawSt l
theorem ScrAt.sl {K : Frag} {H : Hp} {a st : Addr} {ns : List Int} (h : ScrAt K H a st ns) : SqL K H a (ns.map V.int) := by
  rcases h with ⟨_, h⟩ | h
  · exact h
  · exact h H
theorem ScrAt.x {K : Frag} {H H' : Hp} {a st : Addr} {ns : List Int} (h : ScrAt K H a st ns) (e : SameX st H H') : ScrAt K H' a st ns := by
  rcases h with ⟨n, h⟩ | h
  · exact .inl ⟨n, e.seq h n⟩
  · exact .inr h
theorem ScrAt.same {K : Frag} {H H' : Hp} {a st : Addr} {ns : List Int} (h : ScrAt K H a st ns) (e : Same H H') : ScrAt K H' a st ns := h.x (Same.x e)
theorem Ctx.same {K : Frag} {H H' : Hp} {a st : Addr} (c : Ctx K H a st) (e : Same H H') : Ctx K H' a st := by
  obtain ⟨⟨ns, h⟩, l, hl, d⟩ := c
  exact ⟨⟨ns, h.same e⟩, l, e _ _ hl, d⟩
def sp__law_draw (K : Frag) : Sp := fun vs H Q _ => ∃ (a st : Addr) (base : Int), vs = [.ref a, .ref st, .int base] ∧ Ctx K H a st ∧ 0 < base ∧
  ∀ (r : Int) (H' : Hp), 0 ≤ r → r < base → Ctx K H' a st → SameX st H H' → Q (.int r) H'
/-- a list made behind H0 may change -/
theorem SameX.mut {st : Addr} {H0 H1 : Hp} {p : Addr} {o : HO} (e : SameX st H0 H1) (n : H0 p = none) : SameX st H0 (L2.upd H1 p o) := fun b u h k => by
  rw [upd_ne (ne_of_none h n)]
  exact e b u h k
theorem Same.mut {H0 H1 : Hp} {p : Addr} {o : HO} (e : Same H0 H1) (n : H0 p = none) : Same H0 (upd H1 p o) := fun b u h => by
  rw [upd_ne (ne_of_none h n)]
  exact e b u h
theorem Ctx.mut {K : Frag} {H0 H1 : Hp} {a st p : Addr} {o : HO} (c : Ctx K H1 a st) (e : Ctx K H0 a st) (n : H0 p = none) : Ctx K (L2.upd H1 p o) a st := by
  obtain ⟨⟨ns, h⟩, l, hl, d⟩ := c
  obtain ⟨⟨ns0, h0⟩, l0, hl0, d0⟩ := e
  have n1 : st ≠ p := ne_of_none hl0 n
  refine ⟨?_, l, by rw [upd_ne n1]; exact hl, d⟩
  rcases h with ⟨na, h⟩ | h
  · by_cases e : a = p
    · subst e
      rcases h0.sl with (h0 | ⟨_, h0⟩) | h0
      · rw [n] at h0; cases h0
      · rw [n] at h0; cases h0
      · exact ⟨ns0, .inr fun H' => .inr h0⟩
    · exact ⟨ns, .inl ⟨na, sl_upd h e⟩⟩
  · exact ⟨ns, .inr h⟩
/-- ends ascending within a size -/
def Ends (size : Int) (ns : List Int) : Prop := ns.Pairwise (· < ·) ∧ ∀ x ∈ ns, 0 ≤ x ∧ x < size
theorem Ends.snoc {size at_ : Int} {ns : List Int} (h : Ends size ns) (hb : ∀ x ∈ ns, x < at_) (h0 : 0 ≤ at_) (h1 : at_ < size) : Ends size (ns ++ [at_]) := by
  refine ⟨List.pairwise_append.mpr ⟨h.1, List.pairwise_singleton _ _, fun x hx y hy => ?_⟩, fun x hx => ?_⟩
  · rw [List.mem_singleton.mp hy]
    exact hb x hx
  · rcases List.mem_append.mp hx with hx | hx
    · exact h.2 x hx
    · rw [List.mem_singleton.mp hx]
      exact ⟨h0, h1⟩
end S
namespace S
open PySem PySem.Spec PyProof.Rows L2
def t__law_in_b1 (K : Frag) (E : XK) : TS :=
    dIfS (dCmpT oLe (dVar 3) (dVar 1)) (tAsg (dNotV (dVar 2)) (gName 2)) (tNext)
def t__law_in_2 (K : Frag) (E : XK) : TS :=
    tRet (dVar 2)
def t__law_in_1 (K : Frag) (E : XK) : TS :=
    tSeq (dFor (iSeq K (dVar 0)) (gName 3) (t__law_in_b1 K E))
    (stop (t__law_in_2 K E))
def t__law_in (K : Frag) (E : XK) : TS :=
    tSeq (tAsg (tC (.bl false)) (gName 2))
    (stop (t__law_in_1 K E))
end S
-- fn: _law_in
-- law: k03
-- deps: D0
namespace S
open PySem PySem.Spec PyProof.Rows L2
/-- an odd number of the ends is at most the row -/
def inB (ends : List Int) (row : Int) : Bool := ends.foldl (fun b e => if e ≤ row then !b else b) false
def sp__law_in (K : Frag) : Sp := fun vs H Q _ => ∃ (p : Addr) (ns : List Int) (row : Int), vs = [.ref p, .int row] ∧ SqA K H p (ns.map V.int) ∧ Q (.bl (inB ns row)) H
theorem foldl_take {α β : Type} (f : β → α → β) (b : β) {xs : List α} {i : Nat} {x : α} (h : xs[i]? = some x) : (xs.take (i + 1)).foldl f b = f ((xs.take i).foldl f b) x := by
  obtain ⟨hi, e⟩ := List.getElem?_eq_some_iff.mp h
  rw [List.take_succ, List.foldl_append, h]
  rfl
theorem map_get {α : Type} {g : α → V} {ns : List α} {i : Nat} {x : V} (h : (ns.map g)[i]? = some x) : ∃ y, ns[i]? = some y ∧ x = g y := by
  rw [List.getElem?_map] at h
  cases e : ns[i]? with
  | none => rw [e] at h; cases h
  | some y => rw [e] at h; exact ⟨y, rfl, (Option.some.inj h).symm⟩
theorem pure__law_in {K : Frag} (vs : List V) (H : Hp) (Q : VK) (E : XK) (h : sp__law_in K vs H Q E) : t__law_in K E { nx := fun _ H' => Q .non H', rt := Q } (start ["_law_ends_here", "_law_row", "_law_inside", "_law_end"] vs) H := by
  obtain ⟨p, ns, row, rfl, hp, q⟩ := h
  walk_at "gx"
  refine for_seq (fun i σ H1 => H1 = H ∧ ∃ (k : Option V), σ = [some (.ref p), some (.int row), some (.bl (inB (ns.take i) row)), k]) hp ⟨rfl, none, rfl⟩ (fun i σ H1 _ z => by rw [z.1]; exact Same.stay (Same.refl _)) ?_ ?_
  · rintro i x σ H1 hx ⟨rfl, k, rfl⟩
    obtain ⟨e, he, rfl⟩ := map_get hx
    have st : inB (ns.take (i + 1)) row = if e ≤ row then !(inB (ns.take i) row) else inB (ns.take i) row := foldl_take _ _ he
    walk_at "gx"
    refine ifd (fun hl => ?_) (fun hl => ?_)
    · walk_at "gx"
      rw [if_pos hl] at st
      exact ⟨rfl, _, by rw [st]; rfl⟩
    · rw [if_neg hl] at st
      exact ⟨rfl, _, by rw [st]; rfl⟩
  · rintro σ H1 ⟨rfl, k, rfl⟩
    rw [List.length_map, List.take_length]
    exact ⟨q⟩
theorem inB_cons (x : Int) (l : List Int) (row : Int) : inB (x :: l) row = if x ≤ row then !(inB l row) else inB l row := by
  have key : ∀ (l : List Int) (b : Bool), l.foldl (fun b e => if e ≤ row then !b else b) (!b) = !(l.foldl (fun b e => if e ≤ row then !b else b) b) := by
    intro l
    induction l with
    | nil => intro b; rfl
    | cons y l ih =>
      intro b
      simp only [List.foldl_cons]
      by_cases h : y ≤ row
      · rw [if_pos h, if_pos h, ih]
      · rw [if_neg h, if_neg h, ih]
  unfold inB
  simp only [List.foldl_cons]
  by_cases h : x ≤ row
  · rw [if_pos h, if_pos h, key]
  · rw [if_neg h, if_neg h]
end S
-- deps: D0
/-! ## data compared, isinstance -/
namespace S
open PySem PySem.Spec PyProof.Rows L2
theorem dp_ints {K : Frag} {H : Hp} : ∀ ns : List Int, DpAll K H (ns.map V.int) (ns.map PyData.int)
  | [] => .nil
  | n :: r => .cons (.int n) (dp_ints r)
theorem can_ints : ∀ ns : List Int, PyData.canLayAll0 (ns.map PyData.int) = true
  | [] => rfl
  | n :: r => by
    show (PyData.canLay0 (.int n) && PyData.canLayAll0 (r.map PyData.int)) = true
    rw [can_ints r]; rfl
theorem dep_ints : ∀ ns : List Int, PyData.depthAll (ns.map PyData.int) = 0
  | [] => rfl
  | n :: r => by
    show max (PyData.depth (.int n)) (PyData.depthAll (r.map PyData.int)) = 0
    rw [dep_ints r]; rfl
theorem shp_ints (ns : List Int) : SeqAt.shaped (.list (ns.map PyData.int)) = true := by
  unfold SeqAt.shaped
  have e1 : PyData.canLay0 (.list (ns.map PyData.int)) = true := can_ints ns
  have e2 : PyData.depth (.list (ns.map PyData.int)) = 1 := by show PyData.depthAll _ + 1 = 1; rw [dep_ints]
  rw [e1, e2]; rfl
theorem eqv_ints : ∀ xs ys : List Int, PyData.eqvAll (xs.map PyData.int) (ys.map PyData.int) = decide (xs = ys)
  | [], [] => rfl
  | [], _ :: _ => by simp [PyData.eqvAll]
  | _ :: _, [] => by simp [PyData.eqvAll]
  | x :: xs, y :: ys => by
    show (PyData.eqv (.int x) (.int y) && PyData.eqvAll (xs.map PyData.int) (ys.map PyData.int)) = _
    rw [eqv_ints xs ys]
    show ((x == y) && decide (xs = ys)) = _
    by_cases h : x = y <;> by_cases h2 : xs = ys <;> simp [h, h2]
theorem eqd_ll {K : Frag} {H : Hp} {a b : Addr} {xs ys : List Int} {k : Bool → Prop} (h : SqL K H a (xs.map V.int)) (h2 : SqL K H b (ys.map V.int)) (q : k (decide (xs = ys))) : EqD K H (.ref a) (.ref b) k :=
  ⟨_, _, .lst h (dp_ints xs), .lst h2 (dp_ints ys), shp_ints xs, shp_ints ys, by
    have e : PyData.eqv (.list (xs.map PyData.int)) (.list (ys.map PyData.int)) = decide (xs = ys) := eqv_ints xs ys
    rw [e]; exact q⟩
theorem isi_tup {K : Frag} {H : Hp} {p : Addr} {xs : List V} {k : Bool → Prop} (h : SqT K H p xs) (q : k true) : Isi K H (.ref p) (.type "tuple") k := by
  rcases h with (h | ⟨o, h⟩) | ⟨o, its, n, h1, h2, _⟩
  · exact Isi.of (.base (.tup h)) rfl q
  · exact Isi.of (.fTuple h) rfl q
  · exact Isi.of (.kTuple h1 h2) rfl q
theorem map_filter_ints {ns : List Int} (pr : V → Bool) (f : V → V) (p2 : Int → Bool) (f2 : Int → Int) (hp : ∀ i, pr (.int i) = p2 i) (hf : ∀ i, f (.int i) = .int (f2 i)) : ((ns.map V.int).filter pr).map f = ((ns.filter p2).map f2).map V.int := by
  induction ns with
  | nil => rfl
  | cons x r ih =>
    simp only [List.map_cons, List.filter_cons, hp]
    by_cases h : p2 x = true
    · simp only [h, if_true, List.map_cons, hf, ih]
    · rw [if_neg h, if_neg h]; exact ih
theorem Ends.drop {size : Int} {ns : List Int} (h : Ends size ns) (k : Nat) : Ends size (ns.drop k) := ⟨h.1.sublist (List.drop_sublist k ns), fun x hx => h.2 x (List.mem_of_mem_drop hx)⟩
theorem Ends.filter {size : Int} {ns : List Int} (h : Ends size ns) (p : Int → Bool) : Ends size (ns.filter p) := ⟨h.1.filter p, fun x hx => h.2 x ((List.mem_filter.mp hx).1)⟩
theorem Ends.up {size : Int} {ns : List Int} (h : Ends size ns) : Ends size ((ns.filter fun x => decide (x + 1 < size)).map fun x => x + 1) := by
  refine ⟨List.pairwise_map.mpr ((h.1.filter _).imp fun {a b} hab => by omega), fun x hx => ?_⟩
  obtain ⟨y, hy, rfl⟩ := List.mem_map.mp hx
  have h1 := (List.mem_filter.mp hy)
  have h2 := h.2 y h1.1
  have h3 : y + 1 < size := of_decide_eq_true h1.2
  omega
theorem ctx0 {K : Frag} {H : Hp} {a st : Addr} {ns : List Int} (h : SqL K H a (ns.map V.int)) (hs : H st = none) (l : List V) (d : DrawSt l) : Ctx K (upd H st (.lst l)) a st := by
  refine ⟨⟨ns, ?_⟩, _, upd_same, d⟩
  rcases h with h | h
  · have ne : a ≠ st := by
      rintro rfl
      rcases h with h | ⟨_, h⟩
      · rw [hs] at h; cases h
      · rw [hs] at h; cases h
    exact .inl ⟨ne, sl_upd (.inl h) ne⟩
  · exact .inr fun H' => .inr h
theorem ctx_st {K : Frag} {H : Hp} {a st : Addr} (c : Ctx K H a st) : ∃ l, H st = some (.lst l) := let ⟨_, l, h, _⟩ := c; ⟨l, h⟩
theorem ctx_ne {K : Frag} {H : Hp} {a st p : Addr} (c : Ctx K H a st) (n : H p = none) : p ≠ st := by
  obtain ⟨l, h⟩ := ctx_st c
  exact (ne_of_none h n).symm
theorem pw_lt {ns : List Int} (h : ns.Pairwise (· < ·)) {i j : Nat} {x y : Int} (hij : i < j) (hx : ns[i]? = some x) (hy : ns[j]? = some y) : x < y := by
  obtain ⟨h1, rfl⟩ := List.getElem?_eq_some_iff.mp hx
  obtain ⟨h2, rfl⟩ := List.getElem?_eq_some_iff.mp hy
  exact List.pairwise_iff_getElem.mp h i j h1 h2 hij
end S
-- deps: D0 D1
/-! ## lists of numbers made, joined, comprehended -/
namespace S
open PySem PySem.Spec PyProof.Rows L2
section
variable {K : Frag} {H : Hp} {Q : VK}
theorem lc_ints {p : Addr} {g : TG} {tt : TT} {te : TE} {vs : List Nat} {σ : L2.St} (as : List Int) (f : Int → Int) (pr : Int → Bool) (hx : SqA K H p (as.map V.int)) (hz : as.length ≤ 100000)
    (hs : ∀ i H' (A : V → Hp → Prop) (B : Hp → Prop), i ∈ as → Same H H' → (∀ H2, Same H' H2 → pr i = true → A (.int (f i)) H2) → (∀ H2, Same H' H2 → pr i = false → B H2) →
      g (.int i) (wipe σ vs) H' fun σ2 H2 => wipe σ2 vs = wipe σ vs ∧ tt σ2 H2 fun b H3 => if b = true then te σ2 H3 A else B H3)
    (hd : ∀ D H', H D = none → H' D = some (.lst (((as.filter pr).map f).map V.int)) → Same H H' → Q (.ref D) H') : Walk K H p (Wr (LcGo g tt te vs σ Q)) := by
  refine lc_map (fun v => match v with | .int i => .int (f i) | v => v) (fun v => match v with | .int i => pr i | _ => false) hx (by rw [sizeLine_eq, List.length_map]; omega) ?_ fun D H' nD hD e => ?_
  · intro v H1 A B hm e hA hB
    obtain ⟨i, hi, rfl⟩ := List.mem_map.mp hm
    exact hs i H1 A B hi e hA hB
  · rw [map_filter_ints _ _ pr f (fun _ => rfl) (fun _ => rfl)] at hD
    exact hd D H' nD hD e
end
end S
-- deps: D0 D1
namespace S
open PySem PySem.Spec PyProof.Rows L2
/-- a loop that leaves all that stood at an older heap H0, where the sequence stood -/
theorem for_seq0 {K : Frag} {p : Addr} {xs : List V} {g : TG} {tb : TS} {D : L2.Ends} {σ : L2.St} {H0 H : Hp} (Pv : Nat → L2.St → Hp → Prop) (hx : SqA K H0 p xs) (e0 : Same H0 H) (h0 : Pv 0 σ H) (hl : ∀ i σ H', Pv i σ H' → Same H0 H')
    (hs : ∀ i x σ H, xs[i]? = some x → Pv i σ H → g x σ H fun σ2 H2 => tb { D with nx := Pv (i + 1), ct := Pv (i + 1), bk := D.nx } σ2 H2) (hd : ∀ σ H, Pv xs.length σ H → D.nx σ H) :
    Walk K H p (LoopR D g tb σ) := by
  rcases hx with hx | hx
  · exact ⟨.inl ⟨⟨xs, e0.seq hx⟩, for_list Pv h0 (fun i σ H' hi q => (hl i σ H' q).seq hx) hs hd⟩⟩
  · exact ⟨.inr ⟨⟨xs, Same.tup e0 hx⟩, for_tup Pv h0 (fun i σ H' hi q => Same.tup (hl i σ H' q) hx) hs hd⟩⟩
/-- a loop over a list that stays in its place -/
theorem for_lst {K : Frag} {p : Addr} {xs : List V} {g : TG} {tb : TS} {D : L2.Ends} {σ : L2.St} {H : Hp} (Pv : Nat → L2.St → Hp → Prop) (hx : H p = some (.lst xs)) (h0 : Pv 0 σ H) (hl : ∀ i σ H', Pv i σ H' → H' p = some (.lst xs))
    (hs : ∀ i x σ H, xs[i]? = some x → Pv i σ H → g x σ H fun σ2 H2 => tb { D with nx := Pv (i + 1), ct := Pv (i + 1), bk := D.nx } σ2 H2) (hd : ∀ σ H, Pv xs.length σ H → D.nx σ H) :
    Walk K H p (LoopR D g tb σ) := ⟨.inl ⟨⟨xs, SqL.of hx⟩, for_list Pv h0 (fun i σ H' hi q => SqL.of (hl i σ H' q)) hs hd⟩⟩
end S
-- deps: D0 D1
/-! ## a bitmap on the heap -/
namespace S
open PySem PySem.Spec PyProof.Rows L2
theorem Same.slt {H H' : Hp} {a C dx : Addr} {vs : List (Option V)} (e : Same H H') (h : SlX.Slt H a C dx vs) : SlX.Slt H' a C dx vs := by
  rcases h with ⟨h, z⟩ | ⟨h, z⟩
  · exact .inl ⟨e _ _ h, z⟩
  · exact .inr ⟨e _ _ h, e _ _ z⟩
theorem slO_lst {a C dx : Addr} {vs : List (Option V)} {xs : List V} : SlX.SlO a C dx vs ≠ .lst xs := fun z => by unfold SlX.SlO at z; cases z
theorem slO_tup {a C dx : Addr} {vs : List (Option V)} {xs : List V} : SlX.SlO a C dx vs ≠ .tup xs := fun z => by unfold SlX.SlO at z; cases z
theorem slO_frz {a C dx : Addr} {vs : List (Option V)} {o : Obj} {u : HO} : SlX.SlO a C dx vs ≠ .frz o u := fun z => by unfold SlX.SlO at z; cases z
theorem SameX.slt {st : Addr} {H H' : Hp} {a C dx : Addr} {vs : List (Option V)} {l : List V} (e : SameX st H H') (hst : H st = some (.lst l)) (h : SlX.Slt H a C dx vs) : SlX.Slt H' a C dx vs := by
  rcases h with ⟨h, z⟩ | ⟨h, z⟩
  · exact .inl ⟨e _ _ h (ne_of h hst (fun y => by cases y)), z⟩
  · exact .inr ⟨e _ _ h (ne_of h hst slO_lst), e _ _ z (ne_of z hst (fun y => by cases y))⟩
/-- all but two objects stays -/
def SameO (x y : Addr) (H H' : Hp) : Prop := ∀ b o, H b = some o → b ≠ x → b ≠ y → H' b = some o
theorem Same.o {x y : Addr} {H H' : Hp} (e : Same H H') : SameO x y H H' := fun b o h _ _ => e b o h
theorem SameO.trans {x y : Addr} {H H1 H2 : Hp} (a : SameO x y H H1) (b : SameO x y H1 H2) : SameO x y H H2 := fun c o h n m => b c o (a c o h n m) n m
theorem SameO.slH {x y C : Addr} {H : Hp} {vs : List (Option V)} : SameO x y H (SlX.slH H x C y vs) := fun b o h n m => by rw [SlX.slH_ne n m]; exact h
theorem SameO.tup {K : Frag} {x y a C : Addr} {H H' : Hp} {xs : List V} {vs : List (Option V)} (e : SameO x y H H') (hx : SlX.Slt H x C y vs) (hy : ∀ o, H y = some o → (∀ ys, o ≠ .tup ys) ∧ ∀ u w, o ≠ .frz u w) (h : SqT K H a xs) : SqT K H' a xs := by
  have nx : ∀ o, H a = some o → (o = .tup xs ∨ ∃ u, o = .frz u (.tup xs)) → a ≠ x ∧ a ≠ y := fun o ho q => by
    refine ⟨fun z => ?_, fun z => ?_⟩
    · subst z
      rcases hx with ⟨h1, _⟩ | ⟨h1, _⟩
      · rw [ho] at h1
        rcases q with q | ⟨u, q⟩ <;> · rw [q] at h1; cases h1
      · rw [ho] at h1
        have h2 := Option.some.inj h1
        rcases q with q | ⟨u, q⟩
        · exact slO_tup (h2.symm.trans q)
        · exact slO_frz (h2.symm.trans q)
    · subst z
      rcases q with q | ⟨u, q⟩
      · exact (hy _ ho).1 _ q
      · exact (hy _ ho).2 _ _ q
  rcases h with (h | ⟨o, h⟩) | h
  · obtain ⟨n, m⟩ := nx _ h (.inl rfl)
    exact .inl (.inl (e _ _ h n m))
  · obtain ⟨n, m⟩ := nx _ h (.inr ⟨_, rfl⟩)
    exact .inl (.inr ⟨o, e _ _ h n m⟩)
  · exact .inr h
abbrev BmF (K : Frag) : Prop := CF K "Bitmap" ["ends", "size"]
/-- a bitmap: its size, its ends -/
def Bm (K : Frag) (H : Hp) (a : Addr) (n : Int) (es : List Int) : Prop := BmF K ∧ 0 ≤ n ∧ Ends n es ∧ ∃ dx p, SlX.Slt H a (He.ga K "Bitmap") dx [some (.ref p), some (.int n)] ∧ SqT K H p (es.map V.int)
theorem Bm.same {K : Frag} {H H' : Hp} {a : Addr} {n : Int} {es : List Int} (h : Bm K H a n es) (e : Same H H') : Bm K H' a n es := by
  obtain ⟨c, h0, hE, dx, p, h1, h2⟩ := h
  exact ⟨c, h0, hE, dx, p, Same.slt e h1, Same.tup e h2⟩
theorem Bm.x {K : Frag} {st : Addr} {H H' : Hp} {a : Addr} {n : Int} {es : List Int} {l : List V} (h : Bm K H a n es) (e : SameX st H H') (hst : H st = some (.lst l)) : Bm K H' a n es := by
  obtain ⟨c, h0, hE, dx, p, h1, h2⟩ := h
  exact ⟨c, h0, hE, dx, p, e.slt hst h1, e.tup h2 hst⟩
end S
namespace S
open PySem PySem.Spec PyProof.Rows L2
def t_Bitmapdd_initdd_b1_1 (K : Frag) (E : XK) : TS :=
    tAsg (dVar 4) (gName 3)
def t_Bitmapdd_initdd_b1 (K : Frag) (E : XK) : TS :=
    tSeq (dIfS (dNot (dChainT oLt oLt (dVar 3) (dVar 4) (dVar 1))) (dGivS (ExF K "BadBitmap" ["SliceError"]) (dRaise K "BadBitmap" (WD E))) (tNext))
    (stop (t_Bitmapdd_initdd_b1_1 K E))
def t_Bitmapdd_initdd_4 (K : Frag) (E : XK) : TS :=
    dSto K "ends" (tCB (cTuple K) (tCons (dVar 2) (tNil))) (dVar 0)
def t_Bitmapdd_initdd_3 (K : Frag) (E : XK) : TS :=
    tSeq (dSto K "size" (dVar 1) (dVar 0))
    (stop (t_Bitmapdd_initdd_4 K E))
def t_Bitmapdd_initdd_2 (K : Frag) (E : XK) : TS :=
    tSeq (dIfS (dCmpT oLt (dVar 1) (tC (.int 0))) (dGivS (ExF K "BadBitmap" ["SliceError"]) (dRaise K "BadBitmap" (WD E))) (tNext))
    (stop (t_Bitmapdd_initdd_3 K E))
def t_Bitmapdd_initdd_1 (K : Frag) (E : XK) : TS :=
    tSeq (dFor (iSeq K (dVar 2)) (gName 4) (t_Bitmapdd_initdd_b1 K E))
    (stop (t_Bitmapdd_initdd_2 K E))
def t_Bitmapdd_initdd (K : Frag) (E : XK) : TS :=
    tSeq (tAsg (tUn uNeg (tC (.int 1))) (gName 3))
    (stop (t_Bitmapdd_initdd_1 K E))
end S
-- fn: Bitmap.__init__
-- law: k01
-- deps: Bm _law_in
namespace S
open PySem PySem.Spec PyProof.Rows L2
abbrev XF (K : Frag) (x : Str) : Prop := ExF K x ["SliceError"]
def sp_Bitmapdd_initdd (K : Frag) : Sp := fun vs H Q E => ∃ (x dx p : Addr) (n : Int) (es : List Int), vs = [.ref x, .int n, .ref p] ∧ BmF K ∧ H x = some (.ins (He.ga K "Bitmap") dx []) ∧ H dx = some (.own x) ∧ dx ≠ x ∧ SqA K H p (es.map V.int) ∧
  (0 ≤ n → Ends n es → ∀ H', SameO x dx H H' → Bm K H' x n es → Q .non H') ∧
  (¬ (0 ≤ n ∧ Ends n es) → XF K "BadBitmap" → E (.ref (He.ga K "BadBitmap")) none H)
/-- the ends ahead of i ascend within the size, the last one is last -/
def goodTo (n : Int) (es : List Int) (i : Nat) (last : Int) : Prop := Ends n (es.take i) ∧ (∀ x ∈ es.take i, x ≤ last) ∧ ((i = 0 ∧ last = -1) ∨ last ∈ es.take i)
theorem goodTo_snoc {n : Int} {es : List Int} {i : Nat} {last x : Int} (h : goodTo n es i last) (hx : es[i]? = some x) (h1 : last < x) (h2 : x < n) : goodTo n es (i + 1) x := by
  have e : es.take (i + 1) = es.take i ++ [x] := by rw [List.take_succ, hx]; rfl
  obtain ⟨hE, hl, hm⟩ := h
  have h0 : 0 ≤ x := by
    rcases hm with ⟨_, e⟩ | hm
    · omega
    · have := (hE.2 last hm).1; omega
  refine ⟨?_, fun y hy => ?_, .inr ?_⟩
  · rw [e]
    exact hE.snoc (fun y hy => by have := hl y hy; omega) h0 h2
  · rw [e] at hy
    rcases List.mem_append.mp hy with hy | hy
    · have := hl y hy; omega
    · rw [List.mem_singleton.mp hy]; exact Int.le_refl _
  · rw [e]; exact List.mem_append.mpr (.inr (List.mem_singleton.mpr rfl))
theorem goodTo_bad {n : Int} {es : List Int} {i : Nat} {last x : Int} (h : goodTo n es i last) (hx : es[i]? = some x) (hb : ¬ (last < x ∧ x < n)) : ¬ Ends n es := fun hE => by
  obtain ⟨_, hl, hm⟩ := h
  have hr := hE.2 x (List.mem_of_getElem? hx)
  refine hb ⟨?_, hr.2⟩
  rcases hm with ⟨_, e⟩ | hm
  · omega
  · obtain ⟨j, hj⟩ := List.mem_iff_getElem?.mp hm
    have hj2 : j < i := by
      obtain ⟨hlt, _⟩ := List.getElem?_eq_some_iff.mp hj
      rw [List.length_take] at hlt
      omega
    rw [List.getElem?_take_of_lt hj2] at hj
    exact pw_lt hE.1 hj2 hj hx
theorem pure_Bitmapdd_initdd {K : Frag} (vs : List V) (H : Hp) (Q : VK) (E : XK) (h : sp_Bitmapdd_initdd K vs H Q E) : t_Bitmapdd_initdd K E { nx := fun _ H' => Q .non H', rt := Q } (start ["self", "size", "ends", "last", "end"] vs) H := by
  obtain ⟨x, dx, p, n, es, rfl, hc, hx, hdx, hne, hp, good, bad⟩ := h
  walk_at "gx"
  refine for_seq (fun i σ H1 => H1 = H ∧ ∃ (last : Int) (k : Option V), σ = [some (.ref x), some (.int n), some (.ref p), some (.int last), k] ∧ goodTo n es i last) hp ⟨rfl, -1, none, rfl, ⟨.nil, fun _ z => nomatch z⟩, fun _ z => (nomatch z), .inl ⟨rfl, rfl⟩⟩
    (fun i σ H1 _ z => by rw [z.1]; exact Same.stay (Same.refl _)) ?_ ?_
  · rintro i v σ H1 hi ⟨rfl, last, k, rfl, hg⟩
    obtain ⟨y, hy, rfl⟩ := map_get hi
    walk_at "gx"
    refine ifd (fun h1 => ?_) (fun h1 => ?_)
    · walk_at "gx"
      refine ifn (fun h2 => ?_) (fun h2 => ?_)
      · exact fun xf => bad (fun z => goodTo_bad hg hy (fun z => h2 z.2) z.2) xf
      · exact ⟨rfl, _, _, rfl, goodTo_snoc hg hy h1 h2⟩
    · exact fun xf => bad (fun z => goodTo_bad hg hy (fun z => h1 z.1) z.2) xf
  · rintro σ H1 ⟨rfl, last, k, rfl, hg⟩
    rw [List.length_map] at hg
    have hE : Ends n es := by
      have := hg.1
      rwa [List.take_length] at this
    walk_at "gx"
    refine ifd (fun h1 => ?_) (fun h1 => ?_)
    · exact fun xf => bad (fun z => by omega) xf
    walk_at "gx"
    have s0 : SlX.Slt H1 x (He.ga K "Bitmap") dx [] := .inl ⟨hx, rfl⟩
    refine Sto.sl hc s0 (i := 1) rfl ?_
    have hy0 : ∀ o, H1 dx = some o → (∀ ys, o ≠ .tup ys) ∧ ∀ u w, o ≠ .frz u w := fun o ho => by
      rw [hdx] at ho
      cases ho
      exact ⟨fun _ z => (nomatch z), fun _ _ z => (nomatch z)⟩
    have e1 : SameO x dx H1 (SlX.slH H1 x (He.ga K "Bitmap") dx (SlX.putS 1 (.int n) [])) := SameO.slH
    have hp1 : SqA K (SlX.slH H1 x (He.ga K "Bitmap") dx (SlX.putS 1 (.int n) [])) p (es.map V.int) := by
      rcases hp with hp | hp
      · refine .inl ?_
        rcases hp with (hp | ⟨o, hp⟩) | hp
        · exact .inl (.inl (e1 _ _ hp (ne_of hp hx (fun z => by cases z)) (ne_of hp hdx (fun z => by cases z))))
        · exact .inl (.inr ⟨o, e1 _ _ hp (ne_of hp hx (fun z => by cases z)) (ne_of hp hdx (fun z => by cases z))⟩)
        · exact .inr hp
      · exact .inr (e1.tup s0 hy0 hp)
    walk_at "gx"
    refine ⟨fun t H2 e2 ht => ?_⟩
    walk_at "gx"
    have s1 : SlX.Slt H2 x (He.ga K "Bitmap") dx [none, some (.int n)] := Same.slt e2 (SlX.slH_slt hne)
    refine Sto.sl hc s1 (i := 0) rfl ?_
    have hd2 : H2 dx = some (.xd []) := e2 _ _ (by unfold SlX.slH; rw [upd_ne hne, upd_same])
    have hy2 : ∀ o, H2 dx = some o → (∀ ys, o ≠ .tup ys) ∧ ∀ u w, o ≠ .frz u w := fun o ho => by
      rw [hd2] at ho
      cases ho
      exact ⟨fun _ z => (nomatch z), fun _ _ z => (nomatch z)⟩
    refine good (by omega) hE _ ((e1.trans (Same.o e2)).trans SameO.slH) ⟨hc, by omega, hE, dx, t, SlX.slH_slt hne, SameO.slH.tup s1 hy2 ht⟩
/-- a bitmap is made -/
theorem mk_bitmap {K : Frag} {H : Hp} {n : Int} {es : List Int} {p : Addr} {R : Addr → Hp → Prop} {E : XK} (c : BmF K) (hp : SqA K H p (es.map V.int)) (good : 0 ≤ n → Ends n es → ∀ x H', Same H H' → H x = none → Bm K H' x n es → R x H')
    (bad : ¬ (0 ≤ n ∧ Ends n es) → XF K "BadBitmap" → ∀ H', Same H H' → E (.ref (He.ga K "BadBitmap")) none H') :
    NewI K H "Bitmap" fun x H2 => sp_Bitmapdd_initdd K [.ref x, .int n, .ref p] H2 (fun v H3 => v = .non ∧ R x H3) E := by
  refine ⟨fun x dx h1 h2 hne => ?_⟩
  have e : Same H (upd (upd H dx (.own x)) x (.ins (He.ga K "Bitmap") dx [])) := fun b o h => by
    rw [upd_ne (ne_of_none h h1), upd_ne (ne_of_none h h2)]; exact h
  refine ⟨x, dx, p, n, es, rfl, c, upd_same, by rw [upd_ne hne, upd_same], hne, Same.sqa e hp, fun h0 hE H' eo hb => ⟨rfl, good h0 hE x H' ?_ h1 hb⟩, fun hb xf => bad hb xf _ e⟩
  exact fun b o h => eo b o (e b o h) (ne_of_none h h1) (ne_of_none h h2)
end S
namespace S
open PySem PySem.Spec PyProof.Rows L2
def t_next_end_1 (K : Frag) (E : XK) : TS :=
    tRet (tOp (oIx K) (dVar 2) (dVar 3))
def t_next_end (K : Frag) (E : XK) : TS :=
    tSeq (dIfS (dOr (dCmpT (oEq K) (dVar 3) (tCB (cLen K) (tCons (dVar 2) (tNil)))) (dAnd (dCmpT oLt (dVar 1) (tCB (cLen K) (tCons (dVar 0) (tNil)))) (dCmpT oLt (tOp (oIx K) (dVar 0) (dVar 1)) (tOp (oIx K) (dVar 2) (dVar 3))))) (tRet (tOp (oIx K) (dVar 0) (dVar 1))) (tNext))
    (stop (t_next_end_1 K E))
end S
-- fn: next_end
-- law: k02
-- deps: D0
namespace S
open PySem PySem.Spec PyProof.Rows L2
def nextEnd : List Int → List Int → Int
  | x :: _, [] => x
  | x :: _, y :: _ => if x < y then x else y
  | [], y :: _ => y
  | [], [] => 0
def sp_next_end (K : Frag) : Sp := fun vs H Q _ => ∃ (p q : Addr) (one other : List Int) (i j : Nat), vs = [.ref p, .int (i : Int), .ref q, .int (j : Int)] ∧ SqA K H p (one.map V.int) ∧ SqA K H q (other.map V.int) ∧
  i ≤ one.length ∧ j ≤ other.length ∧ (i < one.length ∨ j < other.length) ∧ Q (.int (nextEnd (one.drop i) (other.drop j))) H
theorem at_map {ns : List Int} {i : Nat} (h : i < ns.length) : atI (ns.map V.int) (i : Int) = some (.int ns[i]) := atI_nat (by rw [List.getElem?_map, List.getElem?_eq_getElem h]; rfl)
theorem pure_next_end {K : Frag} (vs : List V) (H : Hp) (Q : VK) (E : XK) (h : sp_next_end K vs H Q E) : t_next_end K E { nx := fun _ H' => Q .non H', rt := Q } (start ["one", "i", "other", "j"] vs) H := by
  obtain ⟨p, q, one, other, i, j, rfl, hp, hq, hi, hj, hor, k⟩ := h
  walk_at "gx"
  rw [List.length_map]
  refine ifd (fun hjl => ?_) (fun hjl => ?_)
  · have hil : i < one.length := by omega
    have e : other.drop j = [] := List.drop_eq_nil_of_le (by omega)
    have e2 := List.drop_eq_getElem_cons hil
    rw [e, e2] at k
    have hx := at_map hil
    walk_at "gx"
    exact k
  · have hjl2 : j < other.length := by omega
    have e := List.drop_eq_getElem_cons hjl2
    have hy := at_map hjl2
    walk_at "gx"
    rw [List.length_map]
    refine ifd (fun hil => ?_) (fun hil => ?_)
    · have hil2 : i < one.length := by omega
      have hx := at_map hil2
      have e2 := List.drop_eq_getElem_cons hil2
      rw [e, e2] at k
      walk_at "gx"
      refine ifd (fun hlt => ?_) (fun hlt => ?_)
      · walk_at "gx"
        have k2 : Q (.int (if one[i] < other[j] then one[i] else other[j])) H := k
        rw [if_pos hlt] at k2; exact k2
      · walk_at "gx"
        have k2 : Q (.int (if one[i] < other[j] then one[i] else other[j])) H := k
        rw [if_neg hlt] at k2; exact k2
    · have e2 : one.drop i = [] := List.drop_eq_nil_of_le (by omega)
      rw [e, e2] at k
      walk_at "gx"
      exact k
end S
namespace S
open PySem PySem.Spec PyProof.Rows L2
def t_swept_b1_3 (K : Frag) (E : XK) : TS :=
    dIfS (dCmpT (oNe K) (tOp (oIx K) (dVar 2) (tOp (oAdd K) (tOp oMulA (tC (.int 2)) (dVar 6)) (dVar 7))) (dVar 8)) (tSeq (tAsg (tOp oSub (tC (.int 1)) (dVar 8)) (gName 8))
    (tDrop (dML K mApp (dVar 3) (tCons (dVar 9) (tNil))))) (tNext)
def t_swept_b1_2 (K : Frag) (E : XK) : TS :=
    tSeq (dIfS (dAnd (dCmpT oLt (dVar 5) (tCB (cLen K) (tCons (dVar 1) (tNil)))) (dCmpT (oEq K) (tOp (oIx K) (dVar 1) (dVar 5)) (dVar 9))) (tSeq (tAsg (tOp oSub (tC (.int 1)) (dVar 7)) (gName 7))
    (tAsg (tOp (oAdd K) (dVar 5) (tC (.int 1))) (gName 5))) (tNext))
    (stop (t_swept_b1_3 K E))
def t_swept_b1_1 (K : Frag) (E : XK) : TS :=
    tSeq (dIfS (dAnd (dCmpT oLt (dVar 4) (tCB (cLen K) (tCons (dVar 0) (tNil)))) (dCmpT (oEq K) (tOp (oIx K) (dVar 0) (dVar 4)) (dVar 9))) (tSeq (tAsg (tOp oSub (tC (.int 1)) (dVar 6)) (gName 6))
    (tAsg (tOp (oAdd K) (dVar 4) (tC (.int 1))) (gName 4))) (tNext))
    (stop (t_swept_b1_2 K E))
def t_swept_b1 (K : Frag) (E : XK) : TS :=
    tSeq (tAsg (dCall (sp_next_end K) (EW E) (tCons (dVar 0) (tCons (dVar 4) (tCons (dVar 1) (tCons (dVar 5) (tNil)))))) (gName 9))
    (stop (t_swept_b1_1 K E))
def t_swept_4 (K : Frag) (E : XK) : TS :=
    tRet (tCB (cTuple K) (tCons (dVar 3) (tNil)))
def t_swept_3 (K : Frag) (E : XK) : TS :=
    tSeq (dWhile (dOr (dCmpT oLt (dVar 4) (tCB (cLen K) (tCons (dVar 0) (tNil)))) (dCmpT oLt (dVar 5) (tCB (cLen K) (tCons (dVar 1) (tNil))))) (t_swept_b1 K E))
    (stop (t_swept_4 K E))
def t_swept_2 (K : Frag) (E : XK) : TS :=
    tSeq (tAsg3 (tC (.int 0)) (gName 6) (gName 7) (gName 8))
    (stop (t_swept_3 K E))
def t_swept_1 (K : Frag) (E : XK) : TS :=
    tSeq (tAsg2 (tC (.int 0)) (gName 4) (gName 5))
    (stop (t_swept_2 K E))
def t_swept (K : Frag) (E : XK) : TS :=
    tSeq (tAsg (dLst (tNil)) (gName 3))
    (stop (t_swept_1 K E))
end S
-- fn: swept
-- law: k02
-- deps: D0 next_end _law_in
namespace S
open PySem PySem.Spec PyProof.Rows L2
/-- one step of the sweep: at, the bits behind, the bit so far; the ends and the bit -/
def sweepAt (r : Bool → Bool → Bool) (at_ : Int) (f s b : Bool) (rest : List Int) : List Int := if r f s = b then rest else at_ :: rest
def sweep (r : Bool → Bool → Bool) : List Int → List Int → Bool → Bool → List Int
  | [], [], _, _ => []
  | x :: xs, [], f, s => sweepAt r x (!f) s (r f s) (sweep r xs [] (!f) s)
  | [], y :: ys, f, s => sweepAt r y f (!s) (r f s) (sweep r [] ys f (!s))
  | x :: xs, y :: ys, f, s =>
    if x < y then sweepAt r x (!f) s (r f s) (sweep r xs (y :: ys) (!f) s)
    else if x = y then sweepAt r x (!f) (!s) (r f s) (sweep r xs ys (!f) (!s))
    else sweepAt r y f (!s) (r f s) (sweep r (x :: xs) ys f (!s))
  termination_by xs ys => xs.length + ys.length
def ruleV (r : Bool → Bool → Bool) : List V := [.int (b2i (r false false)), .int (b2i (r false true)), .int (b2i (r true false)), .int (b2i (r true true))]
theorem rule_at (r : Bool → Bool → Bool) (f s : Bool) : atI (ruleV r) (2 * b2i f + b2i s) = some (.int (b2i (r f s))) := by
  cases f <;> cases s
  · exact atI_nat (j := 0) rfl
  · exact atI_nat (j := 1) rfl
  · exact atI_nat (j := 2) rfl
  · exact atI_nat (j := 3) rfl
theorem b2i_not (b : Bool) : 1 - b2i b = b2i (!b) := by cases b <;> rfl
def sp_swept (K : Frag) : Sp := fun vs H Q _ => ∃ (p q t : Addr) (one other : List Int) (r : Bool → Bool → Bool), vs = [.ref p, .ref q, .ref t] ∧ SqA K H p (one.map V.int) ∧ SqA K H q (other.map V.int) ∧ SqT K H t (ruleV r) ∧ r false false = false ∧
  one.length ≤ 100000 ∧ other.length ≤ 100000 ∧ ∀ (u : Addr) (H' : Hp), Same H H' → SqT K H' u ((sweep r one other false false).map V.int) → Q (.ref u) H'
/-- between two turns -/
def inv_swept (K : Frag) (H : Hp) (p q t e : Addr) (one other : List Int) (r : Bool → Bool → Bool) (m : Nat) (σ : L2.St) (H1 : Hp) : Prop := ∃ (i j : Nat) (f s : Bool) (L : List Int) (w : Option V),
  σ = [some (.ref p), some (.ref q), some (.ref t), some (.ref e), some (.int (i : Int)), some (.int (j : Int)), some (.int (b2i f)), some (.int (b2i s)), some (.int (b2i (r f s))), w] ∧
  H1 e = some (.lst (L.map V.int)) ∧ Same H H1 ∧ i ≤ one.length ∧ j ≤ other.length ∧ m = (one.length - i) + (other.length - j) ∧ L.length ≤ i + j ∧ L ++ sweep r (one.drop i) (other.drop j) f s = sweep r one other false false
theorem pure_swept {K : Frag} (vs : List V) (H : Hp) (Q : VK) (E : XK) (h : sp_swept K vs H Q E) : t_swept K E { nx := fun _ H' => Q .non H', rt := Q } (start ["one", "other", "rule", "ends", "i", "j", "first", "second", "bit", "at"] vs) H := by
  obtain ⟨p, q, t, one, other, r, rfl, hp, hq, ht, h00, hl1, hl2, k⟩ := h
  walk_at "gx"
  refine ⟨fun e he => ?_⟩
  walk_at "gx"
  refine ⟨inv_swept K H p q t e one other r, ⟨_, 0, 0, false, false, [], none, by rw [h00]; rfl, upd_same, same_new he, Nat.zero_le _, Nat.zero_le _, rfl, Nat.zero_le _, rfl⟩, ?_⟩
  rintro m σ H1 ⟨i, j, f, s, L, w, rfl, hL, hs, hi, hj, rfl, hlen, htot⟩
  have hp1 := Same.sqa hs hp
  have hq1 := Same.sqa hs hq
  have ht1 := Same.tup hs ht
  -- the turn itself
  have turn : ∀ (D : L2.Ends), (i < one.length ∨ j < other.length) → (∀ σ' H', (∃ m', m' < (one.length - i) + (other.length - j) ∧ inv_swept K H p q t e one other r m' σ' H') → D.nx σ' H') →
      t_swept_b1 K E D [some (.ref p), some (.ref q), some (.ref t), some (.ref e), some (.int (i : Int)), some (.int (j : Int)), some (.int (b2i f)), some (.int (b2i s)), some (.int (b2i (r f s))), w] H1 := by
    intro D hor hD
    refine ⟨p, q, one, other, i, j, rfl, hp1, hq1, hi, hj, hor, ?_⟩
    -- behind the two ifs
    have tail : ∀ (i2 j2 : Nat) (f2 s2 : Bool) (at_ : Int), i ≤ i2 → j ≤ j2 → i2 ≤ one.length → j2 ≤ other.length → i + j < i2 + j2 → sweep r (one.drop i) (other.drop j) f s = sweepAt r at_ f2 s2 (r f s) (sweep r (one.drop i2) (other.drop j2) f2 s2) →
        t_swept_b1_3 K E D [some (.ref p), some (.ref q), some (.ref t), some (.ref e), some (.int (i2 : Int)), some (.int (j2 : Int)), some (.int (b2i f2)), some (.int (b2i s2)), some (.int (b2i (r f s))), some (.int at_)] H1 := by
      intro i2 j2 f2 s2 at_ h1 h2 h3 h4 h5 hsw
      have hr := rule_at r f2 s2
      walk_at "gx"
      unfold sweepAt at hsw
      refine ifn (fun hne => ?_) (fun heq => ?_)
      · have hne2 : r f2 s2 ≠ r f s := fun z => hne (by rw [z])
        rw [if_neg hne2] at hsw
        have hnot : r f2 s2 = !(r f s) := by revert hne2; cases r f2 s2 <;> cases r f s <;> simp
        walk_at "gx"
        refine hD _ _ ⟨_, ?_, i2, j2, f2, s2, L ++ [at_], some (.int at_), ?_, ?_, Same.mut hs he, h3, h4, rfl, ?_, ?_⟩
        · omega
        · rw [hnot, ← b2i_not]; rfl
        · rw [List.map_append]; exact upd_same
        · rw [List.length_append]; show L.length + 1 ≤ _; omega
        · rw [List.append_assoc, ← htot, hsw]; rfl
      · have heq2 : r f2 s2 = r f s := by revert heq; cases r f2 s2 <;> cases r f s <;> simp [b2i]
        rw [if_pos heq2] at hsw
        refine hD _ _ ⟨_, ?_, i2, j2, f2, s2, L, some (.int at_), ?_, hL, hs, h3, h4, rfl, by omega, ?_⟩
        · omega
        · rw [heq2]
        · rw [← htot, hsw]
    have e1 : ∀ h : i < one.length, one.drop i = one[i] :: one.drop (i + 1) := fun h => List.drop_eq_getElem_cons h
    have e2 : ∀ h : j < other.length, other.drop j = other[j] :: other.drop (j + 1) := fun h => List.drop_eq_getElem_cons h
    have n1 : ¬ i < one.length → one.drop i = [] := fun h => List.drop_eq_nil_of_le (by omega)
    have n2 : ¬ j < other.length → other.drop j = [] := fun h => List.drop_eq_nil_of_le (by omega)
    by_cases hil : i < one.length
    · have hx := at_map hil
      by_cases hjl : j < other.length
      · have hy := at_map hjl
        rw [e1 hil, e2 hjl]
        have hn : nextEnd (one[i] :: one.drop (i + 1)) (other[j] :: other.drop (j + 1)) = if one[i] < other[j] then one[i] else other[j] := rfl
        rw [hn]
        have hsw : sweep r (one.drop i) (other.drop j) f s = if one[i] < other[j] then sweepAt r one[i] (!f) s (r f s) (sweep r (one.drop (i + 1)) (other[j] :: other.drop (j + 1)) (!f) s)
            else if one[i] = other[j] then sweepAt r one[i] (!f) (!s) (r f s) (sweep r (one.drop (i + 1)) (other.drop (j + 1)) (!f) (!s))
            else sweepAt r other[j] f (!s) (r f s) (sweep r (one[i] :: one.drop (i + 1)) (other.drop (j + 1)) f (!s)) := by
          rw [e1 hil, e2 hjl, sweep]
        by_cases hlt : one[i] < other[j]
        · rw [if_pos hlt]
          rw [if_pos hlt, ← e2 hjl] at hsw
          walk_at "gx"
          rw [List.length_map]
          refine ift (by omega) ?_
          walk_at "gx"
          refine ift rfl ?_
          walk_at "gx"
          rw [List.length_map]
          refine ift (by omega) ?_
          walk_at "gx"
          refine iff' (by omega) ?_
          have z := tail (i + 1) j (!f) s one[i] (by omega) (by omega) (by omega) (by omega) (by omega) hsw
          rw [← b2i_not] at z
          exact Stop.mk z
        · rw [if_neg hlt]
          rw [if_neg hlt] at hsw
          by_cases heq : one[i] = other[j]
          · rw [if_pos heq] at hsw
            walk_at "gx"
            rw [List.length_map]
            refine ift (by omega) ?_
            walk_at "gx"
            refine ift heq ?_
            walk_at "gx"
            rw [List.length_map]
            refine ift (by omega) ?_
            walk_at "gx"
            refine ift rfl ?_
            walk_at "go"
            have z := tail (i + 1) (j + 1) (!f) (!s) other[j] (by omega) (by omega) (by omega) (by omega) (by omega) (by rw [hsw, heq])
            rw [← b2i_not, ← b2i_not] at z
            exact Stop.mk z
          · rw [if_neg heq] at hsw
            rw [← e1 hil] at hsw
            walk_at "gx"
            rw [List.length_map]
            refine ift (by omega) ?_
            walk_at "gx"
            refine iff' heq ?_
            walk_at "gx"
            rw [List.length_map]
            refine ift (by omega) ?_
            walk_at "gx"
            refine ift rfl ?_
            walk_at "go"
            have z := tail i (j + 1) f (!s) other[j] (by omega) (by omega) (by omega) (by omega) (by omega) hsw
            rw [← b2i_not] at z
            exact Stop.mk z
      · have hsw : sweep r (one.drop i) (other.drop j) f s = sweepAt r one[i] (!f) s (r f s) (sweep r (one.drop (i + 1)) (other.drop j) (!f) s) := by
          rw [e1 hil, n2 hjl, sweep]
        have hn : nextEnd (one.drop i) (other.drop j) = one[i] := by rw [e1 hil, n2 hjl]; rfl
        rw [hn]
        walk_at "gx"
        rw [List.length_map]
        refine ift (by omega) ?_
        walk_at "gx"
        refine ift rfl ?_
        walk_at "gx"
        rw [List.length_map]
        refine iff' (by omega) ?_
        have z := tail (i + 1) j (!f) s one[i] (by omega) (by omega) (by omega) (by omega) (by omega) hsw
        rw [← b2i_not] at z
        exact Stop.mk z
    · have hjl : j < other.length := by omega
      have hy := at_map hjl
      have hsw : sweep r (one.drop i) (other.drop j) f s = sweepAt r other[j] f (!s) (r f s) (sweep r (one.drop i) (other.drop (j + 1)) f (!s)) := by
        rw [e2 hjl, n1 hil, sweep]
      have hn : nextEnd (one.drop i) (other.drop j) = other[j] := by rw [e2 hjl, n1 hil]; rfl
      rw [hn]
      walk_at "gx"
      rw [List.length_map]
      refine iff' (by omega) ?_
      walk_at "gx"
      rw [List.length_map]
      refine ift (by omega) ?_
      walk_at "gx"
      refine ift rfl ?_
      walk_at "go"
      have z := tail i (j + 1) f (!s) other[j] (by omega) (by omega) (by omega) (by omega) (by omega) hsw
      rw [← b2i_not] at z
      exact Stop.mk z
  walk_at "gx"
  rw [List.length_map]
  refine ifd (fun hil => ?_) (fun hil => ?_)
  · exact turn _ (.inl (by omega)) fun _ _ z => z
  · walk_at "gx"
    rw [List.length_map]
    refine ifd (fun hjl => ?_) (fun hjl => ?_)
    · exact turn _ (.inr (by omega)) fun _ _ z => z
    · walk_at "gx"
      refine ⟨fun u H2 e2 hu => k u H2 (hs.trans e2) ?_⟩
      have e : L = sweep r one other false false := by
        rw [← htot, List.drop_eq_nil_of_le (by omega), List.drop_eq_nil_of_le (by omega), sweep, List.append_nil]
      rw [← e]; exact hu
/-! ### the law of the sweep -/
theorem inB_before {ns : List Int} {row : Int} (h : ∀ x ∈ ns, row < x) : inB ns row = false := by
  induction ns with
  | nil => rfl
  | cons x r ih =>
    rw [inB_cons, if_neg (by have := h x (List.mem_cons_self ..); omega)]
    exact ih fun y hy => h y (List.mem_cons_of_mem _ hy)
/-- what the sweep holds is behind lo and ascends; at each row its bit -/
theorem sweep_law (r : Bool → Bool → Bool) : ∀ (n : Nat) (xs ys : List Int) (f s : Bool) (lo : Int), xs.length + ys.length ≤ n → xs.Pairwise (· < ·) → ys.Pairwise (· < ·) → (∀ x ∈ xs, lo ≤ x) → (∀ y ∈ ys, lo ≤ y) →
    (sweep r xs ys f s).Pairwise (· < ·) ∧ (∀ z ∈ sweep r xs ys f s, lo ≤ z ∧ (z ∈ xs ∨ z ∈ ys)) ∧ ∀ row, ((r f s) ^^ inB (sweep r xs ys f s) row) = r (f ^^ inB xs row) (s ^^ inB ys row) := by
  intro n
  induction n with
  | zero =>
    intro xs ys f s lo hn _ _ _ _
    cases xs with
    | cons x xs => simp at hn
    | nil =>
      cases ys with
      | cons y ys => simp at hn
      | nil =>
        rw [sweep]
        exact ⟨.nil, fun _ z => (nomatch z), fun row => by simp [inB]⟩
  | succ n ih =>
    -- one step at at_, the smallest of both
    have step : ∀ (xs ys xs2 ys2 : List Int) (f s f2 s2 : Bool) (lo at_ : Int), lo ≤ at_ → xs2.length + ys2.length ≤ n → xs2.Pairwise (· < ·) → ys2.Pairwise (· < ·) → (∀ x ∈ xs2, at_ < x) → (∀ y ∈ ys2, at_ < y) →
        (∀ z, z ∈ xs2 → z ∈ xs) → (∀ z, z ∈ ys2 → z ∈ ys) → (at_ ∈ xs ∨ at_ ∈ ys) →
        (∀ row, at_ ≤ row → (f ^^ inB xs row) = (f2 ^^ inB xs2 row) ∧ (s ^^ inB ys row) = (s2 ^^ inB ys2 row)) → (∀ row, row < at_ → inB xs row = false ∧ inB ys row = false) →
        (sweepAt r at_ f2 s2 (r f s) (sweep r xs2 ys2 f2 s2)).Pairwise (· < ·) ∧ (∀ z ∈ sweepAt r at_ f2 s2 (r f s) (sweep r xs2 ys2 f2 s2), lo ≤ z ∧ (z ∈ xs ∨ z ∈ ys)) ∧
          ∀ row, ((r f s) ^^ inB (sweepAt r at_ f2 s2 (r f s) (sweep r xs2 ys2 f2 s2)) row) = r (f ^^ inB xs row) (s ^^ inB ys row) := by
      intro xs ys xs2 ys2 f s f2 s2 lo at_ hlo hn h1 h2 h3 h4 h5 h6 h7 h8 h9
      obtain ⟨i1, i2, i3⟩ := ih xs2 ys2 f2 s2 (at_ + 1) hn h1 h2 (fun x hx => h3 x hx) (fun y hy => h4 y hy)
      unfold sweepAt
      by_cases he : r f2 s2 = r f s
      · rw [if_pos he]
        refine ⟨i1, fun z hz => ⟨by have := (i2 z hz).1; omega, (i2 z hz).2.imp (h5 z) (h6 z)⟩, fun row => ?_⟩
        by_cases hrow : at_ ≤ row
        · rw [(h8 row hrow).1, (h8 row hrow).2, ← i3 row, he]
        · rw [(h9 row (by omega)).1, (h9 row (by omega)).2, inB_before fun x hx => by have := (i2 x hx).1; omega]
          simp
      · rw [if_neg he]
        refine ⟨List.pairwise_cons.mpr ⟨fun z hz => by have := (i2 z hz).1; omega, i1⟩, fun z hz => ?_, fun row => ?_⟩
        · rcases List.mem_cons.mp hz with rfl | hz
          · exact ⟨hlo, h7⟩
          · exact ⟨by have := (i2 z hz).1; omega, (i2 z hz).2.imp (h5 z) (h6 z)⟩
        · by_cases hrow : at_ ≤ row
          · rw [inB_cons, if_pos hrow, (h8 row hrow).1, (h8 row hrow).2, ← i3 row]
            revert he
            cases r f2 s2 <;> cases r f s <;> cases inB (sweep r xs2 ys2 f2 s2) row <;> simp
          · rw [(h9 row (by omega)).1, (h9 row (by omega)).2, inB_cons, if_neg hrow, inB_before fun x hx => by have := (i2 x hx).1; omega]
            simp
    intro xs ys f s lo hn hx hy lx ly
    cases xs with
    | nil =>
      cases ys with
      | nil =>
        rw [sweep]
        exact ⟨.nil, fun _ z => (nomatch z), fun row => by simp [inB]⟩
      | cons y ys =>
        rw [sweep]
        have hy2 := List.pairwise_cons.mp hy
        refine step [] (y :: ys) [] ys f s f (!s) lo y (ly y (List.mem_cons_self ..)) (by simp at hn ⊢; omega) .nil hy2.2 (fun _ z => nomatch z) hy2.1 (fun _ z => z) (fun z hz => List.mem_cons_of_mem _ hz) (.inr (List.mem_cons_self ..)) (fun row h => ⟨rfl, ?_⟩) fun row h => ⟨rfl, inB_before fun z hz => ?_⟩
        · rw [inB_cons, if_pos h]; cases s <;> cases inB ys row <;> rfl
        · rcases List.mem_cons.mp hz with rfl | hz
          · exact h
          · have := hy2.1 z hz; omega
    | cons x xs =>
      have hx2 := List.pairwise_cons.mp hx
      cases ys with
      | nil =>
        rw [sweep]
        refine step (x :: xs) [] xs [] f s (!f) s lo x (lx x (List.mem_cons_self ..)) (by simp at hn ⊢; omega) hx2.2 .nil hx2.1 (fun _ z => nomatch z) (fun z hz => List.mem_cons_of_mem _ hz) (fun _ z => z) (.inl (List.mem_cons_self ..)) (fun row h => ⟨?_, rfl⟩) fun row h => ⟨inB_before fun z hz => ?_, rfl⟩
        · rw [inB_cons, if_pos h]; cases f <;> cases inB xs row <;> rfl
        · rcases List.mem_cons.mp hz with rfl | hz
          · exact h
          · have := hx2.1 z hz; omega
      | cons y ys =>
        have hy2 := List.pairwise_cons.mp hy
        have before : ∀ {l : List Int} {a b row : Int}, (∀ z ∈ l, a < z) → row < a → inB (a :: l) row = false := fun hl hr => inB_before fun z hz => by
          rcases List.mem_cons.mp hz with rfl | hz
          · exact hr
          · have := hl z hz; omega
        rw [sweep]
        by_cases hlt : x < y
        · rw [if_pos hlt]
          refine step (x :: xs) (y :: ys) xs (y :: ys) f s (!f) s lo x (lx x (List.mem_cons_self ..)) (by simp at hn ⊢; omega) hx2.2 hy hx2.1 (fun z hz => ?_) (fun z hz => List.mem_cons_of_mem _ hz) (fun _ z => z) (.inl (List.mem_cons_self ..)) (fun row h => ⟨?_, rfl⟩) fun row h => ⟨before (b := 0) hx2.1 h, before (b := 0) hy2.1 (by omega)⟩
          · rcases List.mem_cons.mp hz with rfl | hz
            · exact hlt
            · have := hy2.1 z hz; omega
          · rw [inB_cons, if_pos h]; cases f <;> cases inB xs row <;> rfl
        · rw [if_neg hlt]
          by_cases heq : x = y
          · rw [if_pos heq]
            subst heq
            refine step (x :: xs) (x :: ys) xs ys f s (!f) (!s) lo x (lx x (List.mem_cons_self ..)) (by simp at hn ⊢; omega) hx2.2 hy2.2 hx2.1 hy2.1 (fun z hz => List.mem_cons_of_mem _ hz) (fun z hz => List.mem_cons_of_mem _ hz) (.inl (List.mem_cons_self ..)) (fun row h => ⟨?_, ?_⟩) fun row h => ⟨before (b := 0) hx2.1 h, before (b := 0) hy2.1 h⟩
            · rw [inB_cons, if_pos h]; cases f <;> cases inB xs row <;> rfl
            · rw [inB_cons, if_pos h]; cases s <;> cases inB ys row <;> rfl
          · rw [if_neg heq]
            refine step (x :: xs) (y :: ys) (x :: xs) ys f s f (!s) lo y (ly y (List.mem_cons_self ..)) (by simp at hn ⊢; omega) hx hy2.2 (fun z hz => ?_) hy2.1 (fun _ z => z) (fun z hz => List.mem_cons_of_mem _ hz) (.inr (List.mem_cons_self ..)) (fun row h => ⟨rfl, ?_⟩) fun row h => ⟨before (b := 0) hx2.1 (by omega), before (b := 0) hy2.1 h⟩
            · rcases List.mem_cons.mp hz with rfl | hz
              · omega
              · have := hx2.1 z hz; omega
            · rw [inB_cons, if_pos h]; cases s <;> cases inB ys row <;> rfl
theorem sweepAt_len (r : Bool → Bool → Bool) (at_ : Int) (f s b : Bool) (l : List Int) : (sweepAt r at_ f s b l).length ≤ l.length + 1 := by
  unfold sweepAt
  split
  · omega
  · simp
theorem sweep_len (r : Bool → Bool → Bool) : ∀ (n : Nat) (xs ys : List Int) (f s : Bool), xs.length + ys.length ≤ n → (sweep r xs ys f s).length ≤ xs.length + ys.length := by
  intro n
  induction n with
  | zero =>
    intro xs ys f s hn
    cases xs with
    | cons x xs => simp at hn
    | nil =>
      cases ys with
      | cons y ys => simp at hn
      | nil => rw [sweep]; simp
  | succ n ih =>
    intro xs ys f s hn
    cases xs with
    | nil =>
      cases ys with
      | nil => rw [sweep]; simp
      | cons y ys =>
        rw [sweep]
        have := ih [] ys f (!s) (by simp at hn ⊢; omega)
        exact Nat.le_trans (sweepAt_len ..) (by simp at this ⊢; omega)
    | cons x xs =>
      cases ys with
      | nil =>
        rw [sweep]
        have := ih xs [] (!f) s (by simp at hn ⊢; omega)
        exact Nat.le_trans (sweepAt_len ..) (by simp at this ⊢; omega)
      | cons y ys =>
        rw [sweep]
        split
        · have := ih xs (y :: ys) (!f) s (by simp at hn ⊢; omega)
          exact Nat.le_trans (sweepAt_len ..) (by simp at this ⊢; omega)
        · split
          · have := ih xs ys (!f) (!s) (by simp at hn ⊢; omega)
            exact Nat.le_trans (sweepAt_len ..) (by simp at this ⊢; omega)
          · have := ih (x :: xs) ys f (!s) (by simp at hn ⊢; omega)
            exact Nat.le_trans (sweepAt_len ..) (by simp at this ⊢; omega)
end S
namespace S
open PySem PySem.Spec PyProof.Rows L2
def t_turned_2 (K : Frag) (E : XK) : TS :=
    tRet (tOp (oAdd K) (dTup K (tCons (tC (.int 0)) (tNil))) (tCB (cTuple K) (tCons (dVar 0) (tNil))))
def t_turned_1 (K : Frag) (E : XK) : TS :=
    tSeq (dIfS (dAnd (dCmpT oGt (tCB (cLen K) (tCons (dVar 0) (tNil))) (tC (.int 0))) (dCmpT (oEq K) (tOp (oIx K) (dVar 0) (tC (.int 0))) (tC (.int 0)))) (tRet (tCB (cTuple K) (tCons (tSl (oSl K) (dVar 0) (dPart (tC (.int 1))) (tNoPart)) (tNil)))) (tNext))
    (stop (t_turned_2 K E))
def t_turned (K : Frag) (E : XK) : TS :=
    tSeq (dIfS (dCmpT (oEq K) (dVar 1) (tC (.int 0))) (tRet (dTup K (tNil))) (tNext))
    (stop (t_turned_1 K E))
end S
-- fn: turned
-- law: k03
-- deps: D0
namespace S
open PySem PySem.Spec PyProof.Rows L2
def mTurned (ends : List Int) (size : Int) : List Int := if size = 0 then [] else match ends with
  | 0 :: r => r
  | l => 0 :: l
def sp_turned (K : Frag) : Sp := fun vs H Q _ => ∃ (p : Addr) (ns : List Int) (size : Int), vs = [.ref p, .int size] ∧ SqA K H p (ns.map V.int) ∧ ns.length ≤ 100000 ∧
  ∀ (t : Addr) (H' : Hp), Same H H' → SqT K H' t ((mTurned ns size).map V.int) → Q (.ref t) H'
theorem at_zero {x : V} {xs : List V} : atI (x :: xs) 0 = some x := atI_nat (j := 0) rfl
theorem cut_one {x : V} {xs : List V} : cutV (x :: xs) (some 1) none = xs := by
  unfold cutV
  have e1 : HT.sIx (x :: xs).length 0 (some 1) = 1 := by
    have := HT.sIx_nat (x :: xs).length 0 1
    rw [show (1 : Int) = ((1 : Nat) : Int) from rfl, this, List.length_cons]; omega
  rw [e1, HT.sIx_none]
  simp
theorem pure_turned {K : Frag} (vs : List V) (H : Hp) (Q : VK) (E : XK) (h : sp_turned K vs H Q E) : t_turned K E { nx := fun _ H' => Q .non H', rt := Q } (start ["ends", "size"] vs) H := by
  obtain ⟨p, ns, size, rfl, hp, hl, q⟩ := h
  walk_at "gx"
  refine ifd (fun h0 => ?_) (fun h0 => ?_)
  · walk_at "gx"
    refine ⟨fun t H1 e h => q t H1 e ?_⟩
    have : mTurned ns size = [] := if_pos h0
    rw [this]; exact h
  walk_at "gx"
  rw [List.length_map]
  have rest : (∀ r, ns ≠ 0 :: r) → t_turned_2 K E { nx := fun _ H' => Q .non H', rt := Q } [some (.ref p), some (.int size)] H := by
    intro hn
    have e : mTurned ns size = 0 :: ns := by
      unfold mTurned
      rw [if_neg h0]
      cases ns with
      | nil => rfl
      | cons x r =>
        split
        · rename_i r' e; exact absurd e (hn _)
        · rfl
    walk_at "gx"
    refine ⟨fun t H1 e1 ht => ?_⟩
    have hp1 := Same.sqa e1 hp
    walk_at "gx"
    refine ⟨fun t2 H2 e2 ht2 => ?_⟩
    refine Cat.t (Same.tup e2 ht) ht2 (by simp only [List.length_cons, List.length_nil, List.length_map, sizeLine_eq]; omega) fun t3 H3 e3 ht3 => ?_
    refine q t3 H3 (e1.trans (e2.trans e3)) ?_
    rw [e]; exact ht3
  refine ifd (fun hlen => ?_) (fun hlen => ?_)
  · cases ns with
    | nil => exact absurd hlen (by decide)
    | cons x r =>
      have hx0 : atI ((x :: r).map V.int) 0 = some (.int x) := at_zero
      walk_at "gx"
      refine ifd (fun hx => ?_) (fun hx => ?_)
      · subst hx
        have e : mTurned (0 :: r) size = r := if_neg h0
        rcases hp with hp | hp
        · refine Cut.l hp fun p1 hp1 => ?_
          rw [List.map_cons, cut_one]
          walk_at "gx"
          refine ⟨fun t2 H2 e2 ht2 => q t2 H2 ((same_new hp1).trans e2) (by rw [e]; exact ht2)⟩
        · refine Cut.t hp fun p1 H1 e1 hp1 => ?_
          rw [List.map_cons, cut_one] at hp1
          walk_at "gx"
          refine ⟨fun t2 H2 e2 ht2 => q t2 H2 (e1.trans e2) (by rw [e]; exact ht2)⟩
      · exact ⟨rest fun r' e => hx (List.cons.inj e).1⟩
  · refine ⟨rest fun r' e => ?_⟩
    subst e
    exact hlen (by show (0 : Int) < ((r'.length + 1 : Nat) : Int); omega)
end S
-- deps: D0 D1 turned _law_in
namespace S
open PySem PySem.Spec PyProof.Rows L2
theorem turned_zero {ns : List Int} : mTurned ns 0 = [] := if_pos rfl
theorem turned_some {r : List Int} {size : Int} (h : size ≠ 0) : mTurned (0 :: r) size = r := if_neg h
theorem turned_none {ns : List Int} {size : Int} (h : size ≠ 0) (hn : ∀ r, ns ≠ 0 :: r) : mTurned ns size = 0 :: ns := by
  unfold mTurned
  rw [if_neg h]
  split
  · rename_i r e; exact absurd rfl (hn _)
  · rfl
/-- the three ways of turned -/
theorem turned_ways {size : Int} {ns : List Int} (h : Ends size ns) : (size = 0 ∧ ns = [] ∧ mTurned ns size = []) ∨ (size ≠ 0 ∧ ∃ r, ns = 0 :: r ∧ mTurned ns size = r ∧ (∀ x ∈ r, 0 < x)) ∨ (size ≠ 0 ∧ mTurned ns size = 0 :: ns ∧ (∀ x ∈ ns, 0 < x)) := by
  by_cases h0 : size = 0
  · left
    subst h0
    refine ⟨rfl, ?_, turned_zero⟩
    cases ns with
    | nil => rfl
    | cons x r => have := h.2 x (List.mem_cons_self ..); omega
  · right
    by_cases hn : ∃ r, ns = 0 :: r
    · obtain ⟨r, rfl⟩ := hn
      exact .inl ⟨h0, r, rfl, turned_some h0, fun x hx => (List.pairwise_cons.mp h.1).1 x hx⟩
    · refine .inr ⟨h0, turned_none h0 fun r e => hn ⟨r, e⟩, fun x hx => ?_⟩
      cases ns with
      | nil => cases hx
      | cons y r =>
        have hy := h.2 y (List.mem_cons_self ..)
        have hy0 : y ≠ 0 := fun e => hn ⟨r, by rw [e]⟩
        rcases List.mem_cons.mp hx with rfl | hx
        · omega
        · have := (List.pairwise_cons.mp h.1).1 x hx; omega
theorem turned_ends {size : Int} {ns : List Int} (h : Ends size ns) (hs : 0 ≤ size) : Ends size (mTurned ns size) := by
  rcases turned_ways h with ⟨_, _, e⟩ | ⟨h0, r, e1, e, hp⟩ | ⟨h0, e, hp⟩
  · rw [e]; exact ⟨.nil, fun _ z => nomatch z⟩
  · rw [e]; subst e1; exact ⟨(List.pairwise_cons.mp h.1).2, fun x hx => h.2 x (List.mem_cons_of_mem _ hx)⟩
  · rw [e]
    refine ⟨List.pairwise_cons.mpr ⟨hp, h.1⟩, fun x hx => ?_⟩
    rcases List.mem_cons.mp hx with rfl | hx
    · omega
    · exact h.2 x hx
theorem turned_in {size row : Int} {ns : List Int} (h : Ends size ns) (h0 : 0 ≤ row) (h1 : row < size) : inB (mTurned ns size) row = !(inB ns row) := by
  rcases turned_ways h with ⟨e, _, _⟩ | ⟨_, r, e1, e, hp⟩ | ⟨_, e, hp⟩
  · omega
  · rw [e, e1, inB_cons, if_pos h0, Bool.not_not]
  · rw [e, inB_cons, if_pos h0]
theorem turned_len {size : Int} {ns : List Int} : (mTurned ns size).length ≤ ns.length + 1 := by
  unfold mTurned
  split
  · simp
  · split <;> simp <;> omega
end S
-- deps: Bm
namespace S
open PySem PySem.Spec PyProof.Rows L2
theorem isi_bm {K : Frag} {H : Hp} {a : Addr} {n : Int} {es : List Int} {k : Bool → Prop} (h : Bm K H a n es) (q : k true) : Isi K H (.ref a) (.ref (He.ga K "Bitmap")) k := by
  obtain ⟨c, _, _, dx, p, hs, _⟩ := h
  exact ⟨.inr ⟨a, _, dx, _, true, rfl, hs, c.sc, c.si, by rw [mf_kit c.mf c.mf]; rfl, q⟩⟩
end S
namespace S
open PySem PySem.Spec PyProof.Rows L2
def t_Bitmap_paired_1 (K : Frag) (E : XK) : TS :=
    tRet (dGiv (CF K "Bitmap" ["ends", "size"]) (dMake K "Bitmap" (sp_Bitmapdd_initdd K) (EW E) (tCons (dAt K "size" (dVar 0)) (tCons (dCall (sp_swept K) (EW E) (tCons (dAt K "ends" (dVar 0)) (tCons (dAt K "ends" (dVar 1)) (tCons (dVar 2) (tNil))))) (tNil)))))
def t_Bitmap_paired (K : Frag) (E : XK) : TS :=
    tSeq (dIfS (dCmpT (oNe K) (dAt K "size" (dVar 0)) (dAt K "size" (dVar 1))) (dGivS (ExF K "SizesDiffer" ["SliceError"]) (dRaise K "SizesDiffer" (WD E))) (tNext))
    (stop (t_Bitmap_paired_1 K E))
end S
-- fn: Bitmap.paired
-- law: k05
-- deps: Bm Bitmap_init swept turned turned_law isi_bm
namespace S
open PySem PySem.Spec PyProof.Rows L2
def joinE (r : Bool → Bool → Bool) (es fs : List Int) : List Int := sweep r es fs false false
theorem join_ends {r : Bool → Bool → Bool} {n : Int} {es fs : List Int} (h1 : Ends n es) (h2 : Ends n fs) : Ends n (joinE r es fs) := by
  obtain ⟨a, b, _⟩ := sweep_law r _ es fs false false 0 (Nat.le_refl _) h1.1 h2.1 (fun x hx => (h1.2 x hx).1) (fun x hx => (h2.2 x hx).1)
  refine ⟨a, fun z hz => ?_⟩
  obtain ⟨c, d | d⟩ := b z hz
  · exact ⟨c, (h1.2 z d).2⟩
  · exact ⟨c, (h2.2 z d).2⟩
theorem join_in {r : Bool → Bool → Bool} {n : Int} {es fs : List Int} (h1 : Ends n es) (h2 : Ends n fs) (h0 : r false false = false) (row : Int) : inB (joinE r es fs) row = r (inB es row) (inB fs row) := by
  obtain ⟨_, _, c⟩ := sweep_law r _ es fs false false 0 (Nat.le_refl _) h1.1 h2.1 (fun x hx => (h1.2 x hx).1) (fun x hx => (h2.2 x hx).1)
  have z := c row
  rw [h0] at z
  show inB (sweep r es fs false false) row = _
  simpa using z
theorem join_len {r : Bool → Bool → Bool} {es fs : List Int} : (joinE r es fs).length ≤ es.length + fs.length := sweep_len r _ es fs false false (Nat.le_refl _)
/-- what a joining of two bitmaps promises -/
def spJoin (K : Frag) (r : Bool → Bool → Bool) (x y : Addr) (H : Hp) (Q : VK) (E : XK) : Prop := ∃ (n m : Int) (es fs : List Int), Bm K H x n es ∧ Bm K H y m fs ∧ es.length ≤ 50000 ∧ fs.length ≤ 50000 ∧
  (n = m → ∀ z H', Same H H' → H z = none → Bm K H' z n (joinE r es fs) → Q (.ref z) H') ∧ (n ≠ m → XF K "SizesDiffer" → E (.ref (He.ga K "SizesDiffer")) none H)
def sp_Bitmap_paired (K : Frag) : Sp := fun vs H Q E => ∃ (x y t : Addr) (r : Bool → Bool → Bool), vs = [.ref x, .ref y, .ref t] ∧ SqT K H t (ruleV r) ∧ r false false = false ∧ spJoin K r x y H Q E
theorem pure_Bitmap_paired {K : Frag} (vs : List V) (H : Hp) (Q : VK) (E : XK) (h : sp_Bitmap_paired K vs H Q E) : t_Bitmap_paired K E { nx := fun _ H' => Q .non H', rt := Q } (start ["self", "other", "rule"] vs) H := by
  obtain ⟨x, y, t, r, rfl, ht, h0, n, m, es, fs, hb, hb2, l1, l2, good, bad⟩ := h
  obtain ⟨c, n0, hE, dx, p, hs, hp⟩ := id hb
  obtain ⟨_, m0, hF, dy, q, hs2, hq⟩ := id hb2
  walk_at "gx"
  refine Atr.sl c hs (i := 1) rfl rfl ?_
  walk_at "gx"
  refine Atr.sl c hs2 (i := 1) rfl rfl ?_
  refine ifn (fun hn => ?_) (fun hn => ?_)
  · exact bad hn
  · subst hn
    walk_at "gx"
    refine fun _ => ?_
    refine Atr.sl c hs (i := 1) rfl rfl ?_
    walk_at "gx"
    refine Atr.sl c hs (i := 0) rfl rfl ?_
    walk_at "gx"
    refine Atr.sl c hs2 (i := 0) rfl rfl ?_
    refine ⟨p, q, t, es, fs, r, rfl, .inr hp, .inr hq, ht, h0, by omega, by omega, fun u H1 e1 hu => ?_⟩
    refine mk_bitmap c (.inr hu) (fun _ _ z H2 e2 nz hz => ?_) (fun nb => absurd ⟨n0, join_ends hE hF⟩ nb)
    refine good rfl z H2 (e1.trans e2) ?_ hz
    cases e : H z with
    | none => rfl
    | some o => rw [e1 _ _ e] at nz; cases nz
end S
namespace S
open PySem PySem.Spec PyProof.Rows L2
def t_Bitmapdd_anddd (K : Frag) (E : XK) : TS :=
    tRet (dMeth K "Bitmap" (sp_Bitmap_paired K) (EW E) (dVar 0) (tCons (dVar 1) (tCons (dGiv (TupG K "AND" [V.int 0, V.int 0, V.int 0, V.int 1]) (tC (.ref (He.ga K "AND")))) (tNil))))
end S
namespace S
open PySem PySem.Spec PyProof.Rows L2
def t_Bitmapdd_ordd (K : Frag) (E : XK) : TS :=
    tRet (dMeth K "Bitmap" (sp_Bitmap_paired K) (EW E) (dVar 0) (tCons (dVar 1) (tCons (dGiv (TupG K "OR" [V.int 0, V.int 1, V.int 1, V.int 1]) (tC (.ref (He.ga K "OR")))) (tNil))))
end S
namespace S
open PySem PySem.Spec PyProof.Rows L2
end S
namespace S
open PySem PySem.Spec PyProof.Rows L2
def t_Bitmapdd_subdd (K : Frag) (E : XK) : TS :=
    tRet (dMeth K "Bitmap" (sp_Bitmap_paired K) (EW E) (dVar 0) (tCons (dVar 1) (tCons (dGiv (TupG K "LESS" [V.int 0, V.int 0, V.int 1, V.int 0]) (tC (.ref (He.ga K "LESS")))) (tNil))))
end S
namespace S
open PySem PySem.Spec PyProof.Rows L2
end S
namespace S
open PySem PySem.Spec PyProof.Rows L2
def t_Bitmapdd_eqdd (K : Frag) (E : XK) : TS :=
    tRet (dAndV (dGiv (MF K "Bitmap" [] ["object"]) (tCB (cIsi K) (tCons (dVar 1) (tCons (tC (.ref (He.ga K "Bitmap"))) (tNil))))) (dAndV (tOp (oEq K) (dAt K "size" (dVar 0)) (dAt K "size" (dVar 1))) (tOp (oEq K) (dAt K "ends" (dVar 0)) (dAt K "ends" (dVar 1)))))
end S
namespace S
open PySem PySem.Spec PyProof.Rows L2
end S
-- fn: Bitmap.__and__ Bitmap.__or__ Bitmap.__xor__ Bitmap.__sub__ Bitmap.__invert__ Bitmap.__eq__ Bitmap.__bool__
-- law: k05
-- deps: Bm Bitmap_init swept turned turned_law isi_bm Bitmap_paired
namespace S
open PySem PySem.Spec PyProof.Rows L2
def rAnd (a b : Bool) : Bool := a && b
def rOr (a b : Bool) : Bool := a || b
def rLess (a b : Bool) : Bool := a && !b
def sp_Bitmapdd_anddd (K : Frag) : Sp := fun vs H Q E => ∃ (x y : Addr), vs = [.ref x, .ref y] ∧ spJoin K rAnd x y H Q E
def sp_Bitmapdd_ordd (K : Frag) : Sp := fun vs H Q E => ∃ (x y : Addr), vs = [.ref x, .ref y] ∧ spJoin K rOr x y H Q E
def sp_Bitmapdd_subdd (K : Frag) : Sp := fun vs H Q E => ∃ (x y : Addr), vs = [.ref x, .ref y] ∧ spJoin K rLess x y H Q E
theorem join_slt {K : Frag} {r : Bool → Bool → Bool} {x y : Addr} {H : Hp} {Q : VK} {E : XK} (h : spJoin K r x y H Q E) : ∃ dx vs, SlX.Slt H x (He.ga K "Bitmap") dx vs := by
  obtain ⟨n, m, es, fs, ⟨_, _, _, dx, p, hs, _⟩, _⟩ := h
  exact ⟨dx, _, hs⟩
theorem pure_Bitmapdd_anddd {K : Frag} (vs : List V) (H : Hp) (Q : VK) (E : XK) (h : sp_Bitmapdd_anddd K vs H Q E) : t_Bitmapdd_anddd K E { nx := fun _ H' => Q .non H', rt := Q } (start ["self", "other"] vs) H := by
  obtain ⟨x, y, rfl, h⟩ := h
  obtain ⟨dx, _, hs⟩ := join_slt h
  refine IsO.of hs ?_
  refine fun g => ?_
  exact ⟨x, y, _, rAnd, rfl, g _, rfl, h⟩
theorem pure_Bitmapdd_ordd {K : Frag} (vs : List V) (H : Hp) (Q : VK) (E : XK) (h : sp_Bitmapdd_ordd K vs H Q E) : t_Bitmapdd_ordd K E { nx := fun _ H' => Q .non H', rt := Q } (start ["self", "other"] vs) H := by
  obtain ⟨x, y, rfl, h⟩ := h
  obtain ⟨dx, _, hs⟩ := join_slt h
  refine IsO.of hs ?_
  refine fun g => ?_
  exact ⟨x, y, _, rOr, rfl, g _, rfl, h⟩
theorem pure_Bitmapdd_subdd {K : Frag} (vs : List V) (H : Hp) (Q : VK) (E : XK) (h : sp_Bitmapdd_subdd K vs H Q E) : t_Bitmapdd_subdd K E { nx := fun _ H' => Q .non H', rt := Q } (start ["self", "other"] vs) H := by
  obtain ⟨x, y, rfl, h⟩ := h
  obtain ⟨dx, _, hs⟩ := join_slt h
  refine IsO.of hs ?_
  refine fun g => ?_
  exact ⟨x, y, _, rLess, rfl, g _, rfl, h⟩
theorem shp_intsT (ns : List Int) : SeqAt.shaped (.tuple (ns.map PyData.int)) = true := by
  unfold SeqAt.shaped
  have e1 : PyData.canLay0 (.tuple (ns.map PyData.int)) = true := can_ints ns
  have e2 : PyData.depth (.tuple (ns.map PyData.int)) = 1 := by show PyData.depthAll _ + 1 = 1; rw [dep_ints]
  rw [e1, e2]; rfl
theorem eqd_tt {K : Frag} {H : Hp} {a b : Addr} {xs ys : List Int} {k : Bool → Prop} (h : SqT K H a (xs.map V.int)) (h2 : SqT K H b (ys.map V.int)) (q : k (decide (xs = ys))) : EqD K H (.ref a) (.ref b) k :=
  ⟨_, _, .tup h (dp_ints xs), .tup h2 (dp_ints ys), shp_intsT xs, shp_intsT ys, by
    have e : PyData.eqv (.tuple (xs.map PyData.int)) (.tuple (ys.map PyData.int)) = decide (xs = ys) := eqv_ints xs ys
    rw [e]; exact q⟩
/-- what stands behind ==: a bitmap, or something that is none -/
def BmV (K : Frag) (H : Hp) (y : V) (m : Int) (fs : List Int) : Prop := (∃ b, y = .ref b ∧ Bm K H b m fs) ∨ (m = -1 ∧ ∀ k : Bool → Prop, k false → MF K "Bitmap" [] ["object"] → Isi K H y (.ref (He.ga K "Bitmap")) k)
instance {K : Frag} {H : Hp} {b : Addr} {m : Int} {fs : List Int} : Coe (Bm K H b m fs) (BmV K H (.ref b) m fs) := ⟨fun h => .inl ⟨b, rfl, h⟩⟩
instance : Coe Addr V := ⟨V.ref⟩
def sp_Bitmapdd_eqdd (K : Frag) : Sp := fun vs H Q _ => ∃ (x : Addr) (y : V) (n m : Int) (es fs : List Int), vs = [.ref x, y] ∧ Bm K H x n es ∧ BmV K H y m fs ∧ Q (.bl (decide (n = m ∧ es = fs))) H
theorem pure_Bitmapdd_eqdd {K : Frag} (vs : List V) (H : Hp) (Q : VK) (E : XK) (h : sp_Bitmapdd_eqdd K vs H Q E) : t_Bitmapdd_eqdd K E { nx := fun _ H' => Q .non H', rt := Q } (start ["self", "other"] vs) H := by
  obtain ⟨x, y, n, m, es, fs, rfl, hb, hb2, q⟩ := h
  obtain ⟨c, n0, hE, dx, p, hs, hp⟩ := id hb
  rcases hb2 with ⟨y, rfl, hb2⟩ | ⟨rfl, isi⟩
  · obtain ⟨_, m0, hF, dy, p2, hs2, hp2⟩ := id hb2
    refine fun _ => ?_
    refine isi_bm hb2 ?_
    refine Atr.sl c hs (i := 1) rfl rfl ?_
    refine Atr.sl c hs2 (i := 1) rfl rfl ?_
    refine ifd (fun h1 => ?_) (fun h1 => ?_)
    · refine Atr.sl c hs (i := 0) rfl rfl ?_
      refine Atr.sl c hs2 (i := 0) rfl rfl ?_
      refine eqd_tt hp hp2 ?_
      have e : decide (n = m ∧ es = fs) = decide (es = fs) := by simp [h1]
      rw [e] at q
      exact q
    · have e : decide (n = m ∧ es = fs) = false := decide_eq_false fun z => h1 z.1
      rw [e] at q
      exact q
  · refine fun mf => ?_
    refine isi _ ?_ mf
    have e : decide (n = -1 ∧ es = fs) = false := decide_eq_false fun z => by omega
    rw [e] at q
    exact q
end S
namespace S
open PySem PySem.Spec PyProof.Rows L2
def t_Bitmap_rank_b1 (K : Frag) (E : XK) : TS :=
    dIfS (dCmpT oLt (dVar 4) (dVar 1)) (tAsg (tOp (oAdd K) (dVar 2) (tOp oMulA (tOp oSub (dVar 1) (dVar 4)) (tOp oSub (tC (.int 1)) (tOp oMulA (tC (.int 2)) (tOp oAnd (dVar 3) (tC (.int 1))))))) (gName 2)) (tNext)
def t_Bitmap_rank_3 (K : Frag) (E : XK) : TS :=
    tRet (dVar 2)
def t_Bitmap_rank_2 (K : Frag) (E : XK) : TS :=
    tSeq (dFor (iEn K (dAt K "ends" (dVar 0))) (gTup K 2 (gCons (gName 3) (gCons (gName 4) (gNil)))) (t_Bitmap_rank_b1 K E))
    (stop (t_Bitmap_rank_3 K E))
def t_Bitmap_rank_1 (K : Frag) (E : XK) : TS :=
    tSeq (tAsg (tC (.int 0)) (gName 2))
    (stop (t_Bitmap_rank_2 K E))
def t_Bitmap_rank (K : Frag) (E : XK) : TS :=
    tSeq (dIfS (dNot (dChainT oLe oLe (tC (.int 0)) (dVar 1) (dAt K "size" (dVar 0)))) (dGivS (ExF K "NoSuchRow" ["SliceError"]) (dRsI K "NoSuchRow" "row" (WD E) 1)) (tNext))
    (stop (t_Bitmap_rank_1 K E))
end S
-- fn: Bitmap.rank
-- law: k11
-- deps: Bm _law_in swept Bitmap_init
namespace S
open PySem PySem.Spec PyProof.Rows L2
/-- the rows below the row, by the ends; s: 1 at an end that begins, -1 at one that stops -/
def rankF (row : Int) : List Int → Int → Int
  | [], _ => 0
  | e :: r, s => (if e < row then (row - e) * s else 0) + rankF row r (-s)
theorem rankF_snoc (row x : Int) : ∀ (l : List Int) (s : Int), rankF row (l ++ [x]) s = rankF row l s + (if x < row then (row - x) * (if l.length % 2 = 0 then s else -s) else 0)
  | [], s => by simp [rankF]
  | e :: r, s => by
    show (if e < row then (row - e) * s else 0) + rankF row (r ++ [x]) (-s) = (if e < row then (row - e) * s else 0) + rankF row r (-s) + _
    have k : (if r.length % 2 = 0 then -s else - -s) = (if (r.length + 1) % 2 = 0 then s else -s) := by
      by_cases h : r.length % 2 = 0
      · rw [if_pos h, if_neg (by omega)]
      · rw [if_neg h, if_pos (by omega), Int.neg_neg]
    rw [rankF_snoc row x r (-s), List.length_cons, k, Int.add_assoc]
def sp_Bitmap_rank (K : Frag) : Sp := fun vs H Q E => ∃ (x : Addr) (n row : Int) (es : List Int), vs = [.ref x, .int row] ∧ Bm K H x n es ∧ n ≤ 2 * 10 ^ 18 ∧ es.length ≤ 50000 ∧ (0 ≤ row → row ≤ n → ∀ H', Same H H' → Q (.int (rankF row es 1)) H') ∧
  (¬ (0 ≤ row ∧ row ≤ n) → XF K "NoSuchRow" → ∀ d, H d = none → E (.ref (He.ga K "NoSuchRow")) (some d) (upd H d (.xd [("row", .int row)])))
theorem sgn (i : Nat) : 1 - 2 * Builtin.bitAnd (i : Int) 1 = if i % 2 = 0 then 1 else -1 := by
  rw [bitAnd_m1]
  by_cases h : i % 2 = 0
  · rw [if_pos h]; omega
  · rw [if_neg h]; omega
theorem pure_Bitmap_rank {K : Frag} (vs : List V) (H : Hp) (Q : VK) (E : XK) (h : sp_Bitmap_rank K vs H Q E) : t_Bitmap_rank K E { nx := fun _ H' => Q .non H', rt := Q } (start ["self", "row", "below", "k", "end"] vs) H := by
  obtain ⟨x, n, row, es, rfl, hb, n1, hl, good, bad⟩ := h
  obtain ⟨c, n0, hE, dx, p, hs, hp⟩ := id hb
  have raise : ¬ (0 ≤ row ∧ row ≤ n) → ∀ k, dGivS (ExF K "NoSuchRow" ["SliceError"]) (dRsI K "NoSuchRow" "row" (WD E) 1) k [some (.ref x), some (.int row), none, none, none] H := fun hb k xf => ⟨fun d nd => bad hb xf d nd⟩
  walk_at "gx"
  refine ifd (fun r0 => ?_) (fun r0 => raise (fun z => r0 z.1) _)
  refine Atr.sl c hs (i := 1) rfl rfl ?_
  show bIf (!decide (row ≤ n)) _ _
  refine ifn (fun r1 => raise (fun z => r1 z.2) _) (fun r1 => ?_)
  have q := good r0 r1
  walk_at "gx"
  refine Atr.sl c hs (i := 0) rfl rfl ?_
  refine for_en (fun i σ H1 => Same H H1 ∧ ∃ (a b : Option V), σ = [some (.ref x), some (.int row), some (.int (rankF row (es.take i) 1)), a, b]) hp ⟨Same.refl _, none, none, rfl⟩ (fun i σ H1 _ z => Same.tup z.1 hp) ?_ ?_
  · rintro i v σ H1 hi ⟨e1, a, b, rfl⟩ T hT
    obtain ⟨y, hy, rfl⟩ := map_get hi
    have e2 : Same H (upd H1 T (.tup [.int (i : Int), .int y])) := e1.trans (same_new hT)
    have hyr := hE.2 y (List.mem_of_getElem? hy)
    have ht : es.take (i + 1) = es.take i ++ [y] := by rw [List.take_succ, hy]; rfl
    have hlen : (es.take i).length = i := by
      obtain ⟨h1, _⟩ := List.getElem?_eq_some_iff.mp hy
      rw [List.length_take]; omega
    have st := rankF_snoc row y (es.take i) 1
    rw [← ht, hlen] at st
    refine ⟨T, _, rfl, SqT.of upd_same, rfl, _, _, rfl, ?_⟩
    refine ⟨_, _, rfl, ?_⟩
    refine ⟨rfl, ?_⟩
    walk_at "gx"
    refine ifd (fun hlt => ?_) (fun hlt => ?_)
    · have hlt' : y < row := hlt
      rw [if_pos hlt'] at st
      walk_at "gx"
      rw [← sgn] at st
      exact ⟨e2, _, _, by rw [st]; rfl⟩
    · have hlt' : ¬ y < row := hlt
      rw [if_neg hlt', Int.add_zero] at st
      exact ⟨e2, _, _, by rw [st]; rfl⟩
  · rintro σ H1 ⟨e1, a, b, rfl⟩
    rw [List.length_map, List.take_length]
    walk_at "gx"
    exact q _ e1
end S
namespace S
open PySem PySem.Spec PyProof.Rows L2
def t_Bitmap_ones (K : Frag) (E : XK) : TS :=
    tRet (dMeth K "Bitmap" (sp_Bitmap_rank K) (EW E) (dVar 0) (tCons (dAt K "size" (dVar 0)) (tNil)))
end S
-- fn: Bitmap.ones
-- law: k11
-- deps: Bm Bitmap_rank
namespace S
open PySem PySem.Spec PyProof.Rows L2
def sp_Bitmap_ones (K : Frag) : Sp := fun vs H Q _ => ∃ (x : Addr) (n : Int) (es : List Int), vs = [.ref x] ∧ Bm K H x n es ∧ n ≤ 2 * 10 ^ 18 ∧ es.length ≤ 50000 ∧ ∀ H', Same H H' → Q (.int (rankF n es 1)) H'
theorem pure_Bitmap_ones {K : Frag} (vs : List V) (H : Hp) (Q : VK) (E : XK) (h : sp_Bitmap_ones K vs H Q E) : t_Bitmap_ones K E { nx := fun _ H' => Q .non H', rt := Q } (start ["self"] vs) H := by
  obtain ⟨x, n, es, rfl, hb, n1, hl, q⟩ := h
  obtain ⟨c, n0, hE, dx, p, hs, hp⟩ := id hb
  refine IsO.of hs ?_
  refine Atr.sl c hs (i := 1) rfl rfl ?_
  exact ⟨x, n, n, es, rfl, hb, n1, hl, fun _ _ => q, fun z => absurd ⟨n0, Int.le_refl _⟩ z⟩
end S
-- deps: Bm Bitmap_ops Bitmap_rank Bitmap_ones
/-! ## bitmaps told by their rows; counts -/
namespace S
open PySem PySem.Spec PyProof.Rows L2
/-- a bitmap whose rows are told by f, at most m ends -/
def Bx (K : Frag) (H : Hp) (x : Addr) (n : Int) (f : Int → Bool) (m : Nat) : Prop := ∃ es, Bm K H x n es ∧ es.length ≤ m ∧ ∀ row, 0 ≤ row → row < n → inB es row = f row
theorem Bx.same {K : Frag} {H H' : Hp} {x : Addr} {n : Int} {f : Int → Bool} {m : Nat} (h : Bx K H x n f m) (e : Same H H') : Bx K H' x n f m := let ⟨es, a, b, c⟩ := h; ⟨es, a.same e, b, c⟩
theorem Bx.slt {K : Frag} {H : Hp} {x : Addr} {n : Int} {f : Int → Bool} {m : Nat} (h : Bx K H x n f m) : ∃ dx vs, SlX.Slt H x (He.ga K "Bitmap") dx vs := let ⟨_, ⟨_, _, _, dx, _, a, _⟩, _⟩ := h; ⟨dx, _, a⟩
section
variable {K : Frag} {H : Hp} {x y : Addr} {n : Int} {f g : Int → Bool} {m1 m2 : Nat} {Q : VK} {E : XK}
theorem spJoin_of {r : Bool → Bool → Bool} (h1 : Bx K H x n f m1) (h2 : Bx K H y n g m2) (l1 : m1 ≤ 50000) (l2 : m2 ≤ 50000) (h0 : r false false = false) (q : ∀ z H', Same H H' → Bx K H' z n (fun row => r (f row) (g row)) (m1 + m2) → Q (.ref z) H') : spJoin K r x y H Q E := by
  obtain ⟨es, b1, a1, c1⟩ := h1
  obtain ⟨fs, b2, a2, c2⟩ := h2
  refine ⟨n, n, es, fs, b1, b2, by omega, by omega, fun _ z H' e _ hz => q z H' e ⟨_, hz, ?_, fun row r0 r1 => ?_⟩, fun z => absurd rfl z⟩
  · have := join_len (r := r) (es := es) (fs := fs); omega
  · rw [join_in b1.2.2.1 b2.2.2.1 h0, c1 row r0 r1, c2 row r0 r1]
theorem isO2 {P : Prop} (h1 : Bx K H x n f m1) (h2 : Bx K H y n g m2) (q : P) : IsO K H "Bitmap" x (IsO K H "Bitmap" y P) := by
  obtain ⟨dx, vs, a⟩ := h1.slt
  obtain ⟨dy, ws, b⟩ := h2.slt
  exact .of a (.of b q)
theorem bx_or (h1 : Bx K H x n f m1) (h2 : Bx K H y n g m2) (l1 : m1 ≤ 50000) (l2 : m2 ≤ 50000) (q : ∀ z H', Same H H' → Bx K H' z n (fun row => rOr (f row) (g row)) (m1 + m2) → Q (.ref z) H') : IsO K H "Bitmap" x (IsO K H "Bitmap" y (sp_Bitmapdd_ordd K [.ref x, .ref y] H Q E)) := isO2 h1 h2 ⟨x, y, rfl, spJoin_of h1 h2 l1 l2 rfl q⟩
theorem bx_sub (h1 : Bx K H x n f m1) (h2 : Bx K H y n g m2) (l1 : m1 ≤ 50000) (l2 : m2 ≤ 50000) (q : ∀ z H', Same H H' → Bx K H' z n (fun row => rLess (f row) (g row)) (m1 + m2) → Q (.ref z) H') : IsO K H "Bitmap" x (IsO K H "Bitmap" y (sp_Bitmapdd_subdd K [.ref x, .ref y] H Q E)) := isO2 h1 h2 ⟨x, y, rfl, spJoin_of h1 h2 l1 l2 rfl q⟩
end
/-! ### counts -/
theorem add4 (a b c d : Int) : (a + b) + (c + d) = (a + c) + (b + d) := by omega
def cntF (f : Int → Bool) : Nat → Int
  | 0 => 0
  | k + 1 => cntF f k + (if f k then 1 else 0)
def altF (row : Int) : List Int → Int → Int
  | [], _ => 0
  | e :: r, s => (if e ≤ row then s else 0) + altF row r (-s)
theorem rank_step (row : Int) : ∀ (es : List Int) (s : Int), rankF (row + 1) es s = rankF row es s + altF row es s
  | [], _ => rfl
  | e :: r, s => by
    show (if e < row + 1 then (row + 1 - e) * s else 0) + rankF (row + 1) r (-s) = ((if e < row then (row - e) * s else 0) + rankF row r (-s)) + ((if e ≤ row then s else 0) + altF row r (-s))
    rw [rank_step row r (-s)]
    have k : (if e < row + 1 then (row + 1 - e) * s else 0) = (if e < row then (row - e) * s else 0) + (if e ≤ row then s else 0) := by
      by_cases h : e < row
      · rw [if_pos (by omega), if_pos h, if_pos (by omega), show row + 1 - e = (row - e) + 1 by omega, Int.add_mul, Int.one_mul]
      · by_cases h2 : e = row
        · rw [if_pos (by omega), if_neg h, if_pos (by omega), h2, show row + 1 - row = 1 by omega, Int.one_mul, Int.zero_add]
        · rw [if_neg (by omega), if_neg h, if_neg (by omega)]; rfl
    rw [k]; omega
theorem alt_in (row : Int) : ∀ (es : List Int) (s : Int), es.Pairwise (· < ·) → altF row es s = if inB es row then s else 0
  | [], s, _ => rfl
  | e :: r, s, h => by
    obtain ⟨h1, h2⟩ := List.pairwise_cons.mp h
    show (if e ≤ row then s else 0) + altF row r (-s) = _
    rw [alt_in row r (-s) h2, inB_cons]
    by_cases he : e ≤ row
    · rw [if_pos he, if_pos he]
      cases inB r row <;> simp <;> omega
    · rw [if_neg he, if_neg he, inB_before fun w hw => by have := h1 w hw; omega]; rfl
theorem rank_zero : ∀ (es : List Int) (s : Int), (∀ x ∈ es, 0 ≤ x) → rankF 0 es s = 0
  | [], _, _ => rfl
  | e :: r, s, h => by
    show (if e < 0 then (0 - e) * s else 0) + rankF 0 r (-s) = 0
    rw [if_neg (by have := h e (List.mem_cons_self ..); omega), rank_zero r (-s) fun x hx => h x (List.mem_cons_of_mem _ hx)]; rfl
theorem rank_cnt {n : Int} {es : List Int} (h : Ends n es) : ∀ k : Nat, rankF (k : Int) es 1 = cntF (inB es) k
  | 0 => rank_zero es 1 fun x hx => (h.2 x hx).1
  | k + 1 => by
    show rankF ((k : Int) + 1) es 1 = cntF (inB es) k + _
    rw [rank_step, rank_cnt h k, alt_in _ _ _ h.1]
theorem cnt_congr {f g : Int → Bool} : ∀ k : Nat, (∀ j : Nat, j < k → f j = g j) → cntF f k = cntF g k
  | 0, _ => rfl
  | k + 1, h => by
    show cntF f k + _ = cntF g k + _
    rw [cnt_congr k fun j hj => h j (by omega), h k (by omega)]
theorem cnt_two (f g : Int → Bool) : ∀ k : Nat, cntF f k + cntF g k = cntF (fun r => rOr (f r) (g r)) k + cntF (fun r => rAnd (f r) (g r)) k
  | 0 => rfl
  | k + 1 => by
    have ih := cnt_two f g k
    have e : (if f k then (1 : Int) else 0) + (if g k then 1 else 0) = (if rOr (f k) (g k) then 1 else 0) + (if rAnd (f k) (g k) then 1 else 0) := by cases f k <;> cases g k <;> rfl
    exact (add4 _ _ _ _).trans ((congr (congrArg (· + ·) ih) e).trans (add4 _ _ _ _))
theorem cnt_not (f : Int → Bool) : ∀ k : Nat, cntF f k + cntF (fun r => !(f r)) k = k
  | 0 => rfl
  | k + 1 => by
    have ih := cnt_not f k
    have e : (if f k then (1 : Int) else 0) + (if !(f k) then 1 else 0) = 1 := by cases f k <;> rfl
    exact (add4 _ _ _ _).trans (congr (congrArg (· + ·) ih) e)
theorem cnt_all {f : Int → Bool} (h : ∀ r, f r = true) : ∀ k : Nat, cntF f k = k
  | 0 => rfl
  | k + 1 => by
    show cntF f k + _ = ((k + 1 : Nat) : Int)
    rw [cnt_all h k, h]; simp
theorem cnt_none {f : Int → Bool} (h : ∀ r, f r = false) : ∀ k : Nat, cntF f k = 0
  | 0 => rfl
  | k + 1 => by
    show cntF f k + _ = 0
    rw [cnt_none h k, h]; simp
section
variable {K : Frag} {H : Hp} {x y : Addr} {n : Int} {f g : Int → Bool} {m1 m2 : Nat} {Q : VK} {E : XK}
theorem bx_ones (h1 : Bx K H x n f m1) (l1 : m1 ≤ 50000) (hn : n ≤ 2 * 10 ^ 18) (q : ∀ H', Same H H' → Q (.int (cntF f n.toNat)) H') : IsO K H "Bitmap" x (sp_Bitmap_ones K [.ref x] H Q E) := by
  obtain ⟨dx, vs, a⟩ := h1.slt
  obtain ⟨es, b1, a1, c1⟩ := h1
  have n0 := b1.2.1
  refine .of a ⟨x, n, es, rfl, b1, hn, by omega, fun H' e => ?_⟩
  have z := rank_cnt b1.2.2.1 n.toNat
  rw [Int.toNat_of_nonneg n0, cnt_congr n.toNat fun j hj => c1 j (by omega) (by omega)] at z
  rw [z]
  exact q H' e
end
end S
namespace S
open PySem PySem.Spec PyProof.Rows L2
end S
-- fn: _law_one_sided
-- law: k10
-- deps: D0 D1 _law_in Bitmap_ops
namespace S
open PySem PySem.Spec PyProof.Rows L2
theorem mem_iff (z : Int) : ∀ L : List Int, L.Pairwise (· < ·) → (z ∈ L ↔ inB L z ≠ inB L (z - 1))
  | [], _ => by simp [inB]
  | x :: r, h => by
    obtain ⟨h1, h2⟩ := List.pairwise_cons.mp h
    rw [inB_cons, inB_cons, List.mem_cons]
    have ih := mem_iff z r h2
    by_cases e : z = x
    · subst e
      rw [if_pos (Int.le_refl _), if_neg (by omega), inB_before h1, inB_before fun w hw => by have := h1 w hw; omega]
      simp
    · by_cases g : x < z
      · rw [if_pos (by omega), if_pos (by omega)]
        constructor
        · rintro (a | a)
          · exact absurd a e
          · have := ih.mp a
            simpa using this
        · intro a
          exact .inr (ih.mpr (by simpa using a))
      · rw [if_neg (by omega), if_neg (by omega)]
        constructor
        · rintro (a | a)
          · exact absurd a e
          · exact ih.mp a
        · intro a
          exact .inr (ih.mpr a)
end S
-- deps: Bm Bitmap_ops _law_in _law_one_sided
/-! ## slices: numbers of bits, place 0 first, the sign last -/
namespace S
open PySem PySem.Spec PyProof.Rows L2
def b2n (b : Bool) : Int := if b = true then 1 else 0
def twos : List Bool → Int
  | [] => 0
  | [b] => - b2n b
  | b :: c :: r => b2n b + 2 * twos (c :: r)
theorem twos_cons (b : Bool) {r : List Bool} (h : r ≠ []) : twos (b :: r) = b2n b + 2 * twos r := by
  cases r with
  | nil => exact absurd rfl h
  | cons c r => rfl
def numL (L : List (List Int)) (row : Int) : Int := twos (L.map fun es => inB es row)
theorem twos_dup (b : Bool) : ∀ bs : List Bool, twos (bs ++ [b, b]) = twos (bs ++ [b])
  | [] => by cases b <;> rfl
  | x :: r => by
    show twos (x :: (r ++ [b, b])) = twos (x :: (r ++ [b]))
    rw [twos_cons x (by simp), twos_cons x (by simp), twos_dup b r]
theorem twos_range : ∀ (bs : List Bool) (x : Bool), -(2 ^ bs.length : Int) ≤ twos (bs ++ [x]) ∧ twos (bs ++ [x]) < 2 ^ bs.length
  | [], x => by cases x <;> decide
  | b :: r, x => by
    obtain ⟨h1, h2⟩ := twos_range r x
    show -(2 ^ (r.length + 1) : Int) ≤ twos (b :: (r ++ [x])) ∧ twos (b :: (r ++ [x])) < 2 ^ (r.length + 1)
    rw [twos_cons b (by simp), Int.pow_succ]
    have hb : b2n b = 0 ∨ b2n b = 1 := by cases b <;> simp [b2n]
    generalize (2 ^ r.length : Int) = p at *
    omega
theorem twos_hi : ∀ (bs : List Bool), (2 ^ bs.length : Int) ≤ twos (bs ++ [true, false])
  | [] => by decide
  | b :: r => by
    have h1 := twos_hi r
    show (2 ^ (r.length + 1) : Int) ≤ twos (b :: (r ++ [true, false]))
    rw [twos_cons b (by simp), Int.pow_succ]
    have hb : b2n b = 0 ∨ b2n b = 1 := by cases b <;> simp [b2n]
    generalize (2 ^ r.length : Int) = p at *
    omega
theorem twos_lo : ∀ (bs : List Bool), twos (bs ++ [false, true]) < -(2 ^ bs.length : Int)
  | [] => by decide
  | b :: r => by
    have h1 := twos_lo r
    show twos (b :: (r ++ [false, true])) < -(2 ^ (r.length + 1) : Int)
    rw [twos_cons b (by simp), Int.pow_succ]
    have hb : b2n b = 0 ∨ b2n b = 1 := by cases b <;> simp [b2n]
    generalize (2 ^ r.length : Int) = p at *
    omega
/-- two top bits that differ: one width less does not do -/
theorem twos_wide {bs : List Bool} {x y : Bool} (h : x ≠ y) : twos (bs ++ [x, y]) < -(2 ^ bs.length : Int) ∨ (2 ^ bs.length : Int) ≤ twos (bs ++ [x, y]) := by
  cases x <;> cases y
  · exact absurd rfl h
  · exact .inl (twos_lo bs)
  · exact .inr (twos_hi bs)
  · exact absurd rfl h
/-! ### the law's sum over the places -/
def accP (n : Nat) : Nat → List Bool → Int
  | _, [] => 0
  | j, b :: r => (if b = true then (if j + 1 = n then -(2 ^ j) else 2 ^ j) else 0) + accP n (j + 1) r
theorem acc_twos (n : Nat) : ∀ (r : List Bool) (j : Nat), j + r.length = n → accP n j r = 2 ^ j * twos r
  | [], j, _ => by show (0 : Int) = 2 ^ j * 0; rw [Int.mul_zero]
  | [b], j, h => by
    have h' : j + 1 = n := h
    show (if b = true then (if j + 1 = n then -(2 ^ j : Int) else 2 ^ j) else 0) + 0 = 2 ^ j * -(b2n b)
    rw [if_pos h']
    cases b
    · show (0 : Int) + 0 = 2 ^ j * -0; simp
    · show -(2 ^ j : Int) + 0 = 2 ^ j * -1
      rw [Int.mul_neg, Int.mul_one, Int.add_zero]
  | b :: c :: r, j, h => by
    have hl : j + (r.length + 1 + 1) = n := h
    show (if b = true then (if j + 1 = n then -(2 ^ j : Int) else 2 ^ j) else 0) + accP n (j + 1) (c :: r) = 2 ^ j * (b2n b + 2 * twos (c :: r))
    rw [acc_twos n (c :: r) (j + 1) (by show j + 1 + (r.length + 1) = n; omega), if_neg (show ¬ j + 1 = n by omega), Int.mul_add, Int.pow_succ, Int.mul_assoc]
    congr 1
    cases b
    · show (0 : Int) = 2 ^ j * 0; simp
    · show (2 ^ j : Int) = 2 ^ j * 1; simp
theorem acc_all (bs : List Bool) : accP bs.length 0 bs = twos bs := by
  rw [acc_twos bs.length bs 0 (by omega)]; show 1 * twos bs = _; rw [Int.one_mul]
/-! ### lists of bitmaps, of lists -/
/-- a place with its ends -/
abbrev Sli := Addr × List Int
def vB (t : Sli) : V := .ref t.1
def Bms (K : Frag) (H : Hp) (n : Int) (M : List Sli) : Prop := ∀ t ∈ M, Bm K H t.1 n t.2
theorem Bms.same {K : Frag} {H H' : Hp} {n : Int} {M : List Sli} (h : Bms K H n M) (e : Same H H') : Bms K H' n M := fun t ht => (h t ht).same e
theorem Bms.x {K : Frag} {H H' : Hp} {n : Int} {M : List Sli} {st : Addr} {l : List V} (h : Bms K H n M) (e : SameX st H H') (hst : H st = some (.lst l)) : Bms K H' n M := fun t ht => (h t ht).x e hst
def Lss (H : Hp) (n : Int) (most : Nat) (M : List Sli) : Prop := ∀ t ∈ M, H t.1 = some (.lst (t.2.map V.int)) ∧ Ends n t.2 ∧ t.2.length ≤ most
theorem Lss.same {H H' : Hp} {n : Int} {m : Nat} {M : List Sli} (h : Lss H n m M) (e : Same H H') : Lss H' n m M := fun t ht => let ⟨a, b, c⟩ := h t ht; ⟨e _ _ a, b, c⟩
theorem Lss.x {H H' : Hp} {n : Int} {m : Nat} {M : List Sli} {st : Addr} (h : Lss H n m M) (e : SameX st H H') (nst : ∀ t ∈ M, t.1 ≠ st) : Lss H' n m M := fun t ht => let ⟨a, b, c⟩ := h t ht; ⟨e _ _ a (nst t ht), b, c⟩
theorem atI_last {xs : List V} {y : V} : atI (xs ++ [y]) (-1) = some y := by
  unfold atI ixN
  rw [if_neg (by decide), if_pos (by simp; omega), Option.bind_some]
  have e : (-1 + ((xs ++ [y]).length : Int)).toNat = xs.length := by simp; omega
  rw [e]; simp
theorem atI_last2 {xs : List V} {y z : V} : atI (xs ++ [y, z]) (-2) = some y := by
  unfold atI ixN
  rw [if_neg (by decide), if_pos (by simp; omega), Option.bind_some]
  have e : (-2 + ((xs ++ [y, z]).length : Int)).toNat = xs.length := by simp; omega
  rw [e]; simp
theorem two_last {α : Type} (M : List α) (h : 1 < M.length) : ∃ A x y, M = A ++ [x, y] := by
  have h1 : M ≠ [] := fun z => by rw [z] at h; simp at h
  obtain ⟨A1, y, rfl⟩ : ∃ A y, M = A ++ [y] := ⟨M.dropLast, M.getLast h1, (List.dropLast_concat_getLast h1).symm⟩
  have h2 : A1 ≠ [] := fun z => by rw [z] at h; simp at h
  obtain ⟨A, x, rfl⟩ : ∃ A y, A1 = A ++ [y] := ⟨A1.dropLast, A1.getLast h2, (List.dropLast_concat_getLast h2).symm⟩
  exact ⟨A, x, y, by simp⟩
theorem one_last {α : Type} (M : List α) (h : M ≠ []) : ∃ A y, M = A ++ [y] := ⟨M.dropLast, M.getLast h, (List.dropLast_concat_getLast h).symm⟩
/-- two lists of ends that differ: at an end of one of them -/
theorem diff_row : ∀ (es fs : List Int), es.Pairwise (· < ·) → fs.Pairwise (· < ·) → es ≠ fs → ∃ z, (z ∈ es ∨ z ∈ fs) ∧ inB es z ≠ inB fs z
  | [], [], _, _, h => absurd rfl h
  | [], y :: r, _, h2, _ => ⟨y, .inr (List.mem_cons_self ..), by
    rw [inB_cons, if_pos (Int.le_refl _), inB_before (List.pairwise_cons.mp h2).1]; simp [inB]⟩
  | x :: r, [], h1, _, _ => ⟨x, .inl (List.mem_cons_self ..), by
    rw [inB_cons, if_pos (Int.le_refl _), inB_before (List.pairwise_cons.mp h1).1]; simp [inB]⟩
  | x :: r, y :: r', h1, h2, h => by
    obtain ⟨a1, a2⟩ := List.pairwise_cons.mp h1
    obtain ⟨b1, b2⟩ := List.pairwise_cons.mp h2
    rcases Int.lt_trichotomy x y with hl | hl | hl
    · refine ⟨x, .inl (List.mem_cons_self ..), ?_⟩
      rw [inB_cons, if_pos (Int.le_refl _), inB_before a1, inB_cons, if_neg (by omega), inB_before fun w hw => by have := b1 w hw; omega]
      simp
    · subst hl
      obtain ⟨z, hz, hd⟩ := diff_row r r' a2 b2 fun e => h (by rw [e])
      have hxz : x < z := by
        rcases hz with hz | hz
        · exact a1 z hz
        · exact b1 z hz
      refine ⟨z, hz.imp (List.mem_cons_of_mem _) (List.mem_cons_of_mem _), ?_⟩
      rw [inB_cons, inB_cons, if_pos (by omega), if_pos (by omega)]
      intro e
      exact hd (by simpa using e)
    · refine ⟨y, .inr (List.mem_cons_self ..), ?_⟩
      rw [inB_cons, if_neg (by omega), inB_before fun w hw => by have := a1 w hw; omega, inB_cons, if_pos (Int.le_refl _), inB_before b1]
      simp
/-- the fewest slices with the same numbers -/
structure Narrow (M M' : List Sli) : Prop where
  ne : M' ≠ []
  pre : ∃ r, M = M' ++ r
  num : ∀ row, numL (M'.map (·.2)) row = numL (M.map (·.2)) row
  top : ∀ A x y, M' = A ++ [x, y] → x.2 ≠ y.2
end S
-- deps: Bm Sl
/-! ## comprehensions that make objects -/
namespace S
open PySem PySem.Spec PyProof.Rows L2
theorem SameI.slt {H H' : Hp} {a C dx : Addr} {vs : List (Option V)} (e : SameI H H') (h : SlX.Slt H a C dx vs) : SlX.Slt H' a C dx vs := by
  rcases h with ⟨h, z⟩ | ⟨h, z⟩
  · exact .inl ⟨e _ _ h (fun _ z => by cases z), z⟩
  · exact .inr ⟨e _ _ h fun _ => slO_lst, e _ _ z (fun _ z => by cases z)⟩
theorem Bm.i {K : Frag} {H H' : Hp} {a : Addr} {n : Int} {es : List Int} (h : Bm K H a n es) (e : SameI H H') : Bm K H' a n es := by
  obtain ⟨c, h0, hE, dx, p, h1, h2⟩ := h
  exact ⟨c, h0, hE, dx, p, e.slt h1, e.tup h2⟩
/-- [e for x in xs]: of data known ahead, the elements told by a relation that the growing list does not touch -/
theorem lc_dat {α : Type} {K : Frag} {p : Addr} {i : Nat} {te : TE} {vs : List Nat} {σ : L2.St} {H1 : Hp} {Q : VK} (as : List α) (f : α → V) (R : Addr → α → V → Hp → Prop) (hx : SqA K H1 p (as.map f)) (hz : as.length < sizeLine)
    (mono : ∀ D a y H H' l, H D = some (.lst l) → R D a y H → SameX D H H' → R D a y H')
    (hs : ∀ (D : Addr) (l : List V) (j : Nat) (a : α) (H : Hp) (A : V → Hp → Prop), H1 D = none → H D = some (.lst l) → as[j]? = some a → Same H1 H → (∀ y H', Same H H' → R D a y H' → A y H') → wipe ((wipe σ vs).set i (some (f a))) vs = wipe σ vs ∧ te ((wipe σ vs).set i (some (f a))) H A)
    (hd : ∀ D ys H', H1 D = none → H' D = some (.lst ys) → Paired (fun a y => R D a y H') as ys → Same H1 H' → Q (.ref D) H') :
    Walk K H1 p (Wr (LcGo (gName i) tYes te vs σ Q)) := by
  refine lc_seq hx fun D hD => ⟨fun j H => ∃ ys, H D = some (.lst ys) ∧ Paired (fun a y => R D a y H) (as.take j) ys ∧ Same H1 H, ⟨[], upd_same, .nil, same_new hD⟩, fun i H _ ⟨_, _, _, e⟩ ys => ⟨e.seq, Same.tup e⟩, ?_, fun H ⟨ys, h1, h2, e⟩ => hd D ys H hD h1 (by rw [List.length_map, List.take_length] at h2; exact h2) e⟩
  rintro j x H hi ⟨ys, h1, h2, e⟩
  rw [List.getElem?_map] at hi
  cases hj : as[j]? with
  | none => rw [hj] at hi; cases hi
  | some a =>
    rw [hj] at hi
    cases hi
    have hil : j < as.length := (List.getElem?_eq_some_iff.mp hj).1
    have hlen : ys.length ≤ j := by
      rw [← h2.length, List.length_take]; exact Nat.min_le_left _ _
    obtain ⟨w, q⟩ := hs D ys j a H (fun y H4 => ∃ acc, H4 D = some (.lst acc) ∧ acc.length < sizeLine ∧ ∃ ys, upd H4 D (.lst (acc ++ [y])) D = some (.lst ys) ∧ Paired (fun a y' => R D a y' (upd H4 D (.lst (acc ++ [y])))) (as.take (j + 1)) ys ∧ Same H1 (upd H4 D (.lst (acc ++ [y])))) hD h1 hj e fun y H' e2 r => by
      have si : SameX D H' (L2.upd H' D (.lst (ys ++ [y]))) := SameX.upd
      refine ⟨ys, e2 _ _ h1, by omega, ys ++ [y], upd_same, ?_, fun b o hb => ?_⟩
      · rw [List.take_succ, hj]
        exact Paired.snoc (Paired.mapP h2 fun a b r => mono _ _ _ _ _ _ h1 r (Same.thenX e2 si)) (mono _ _ _ _ _ _ (e2 _ _ h1) r si)
      · rw [upd_ne (ne_of_none hb hD)]
        exact e2 _ _ (e _ _ hb)
    refine ⟨w, ?_⟩
    unfold tYes
    dsimp only
    rw [if_pos rfl]
    exact q
/-- the lists that a comprehension made -/
theorem paired_lst {α : Type} {H : Hp} {D : Addr} {es : α → List Int} : ∀ {as : List α} {ys : List V}, Paired (fun a y => ∃ x, y = .ref x ∧ x ≠ D ∧ H x = some (.lst ((es a).map V.int))) as ys → ∃ M : List Sli, ys = M.map vB ∧ M.map (·.2) = as.map es ∧ ∀ t ∈ M, H t.1 = some (.lst (t.2.map V.int))
  | _, _, .nil => ⟨[], rfl, rfl, fun _ z => nomatch z⟩
  | _, _, .cons (a := a) ⟨x, e, _, hb⟩ h => by
    obtain ⟨M, h1, h2, h3⟩ := paired_lst h
    refine ⟨(x, es a) :: M, by rw [e, h1]; rfl, by rw [List.map_cons, List.map_cons, h2], fun t ht => ?_⟩
    rcases List.mem_cons.mp ht with rfl | ht
    · exact hb
    · exact h3 t ht
end S
-- deps: Bm Bitmap_ops Sl Lc
/-! ## bitmaps told by their rows, their ends among known ones -/
namespace S
open PySem PySem.Spec PyProof.Rows L2
structure Kn (S : List Int) : Prop where
  zero : (0 : Int) ∈ S
  len : S.length ≤ 1000
theorem asc_len : ∀ (L S : List Int), L.Pairwise (· < ·) → (∀ z ∈ L, z ∈ S) → L.length ≤ S.length
  | [], _, _, _ => Nat.zero_le _
  | x :: r, S, h, hs => by
    obtain ⟨h1, h2⟩ := List.pairwise_cons.mp h
    have hx := hs x (List.mem_cons_self ..)
    have ih := asc_len r (S.erase x) h2 fun z hz => (List.mem_erase_of_ne (by have := h1 z hz; omega)).mpr (hs z (List.mem_cons_of_mem _ hz))
    have e := List.length_erase_of_mem hx
    have hp : 0 < S.length := List.length_pos_of_mem hx
    rw [List.length_cons]; omega
def Bs (K : Frag) (H : Hp) (x : Addr) (n : Int) (f : Int → Bool) (S : List Int) : Prop := ∃ es, Bm K H x n es ∧ (∀ z ∈ es, z ∈ S) ∧ ∀ row, 0 ≤ row → row < n → inB es row = f row
theorem Bs.same {K : Frag} {H H' : Hp} {x : Addr} {n : Int} {f : Int → Bool} {S : List Int} (h : Bs K H x n f S) (e : Same H H') : Bs K H' x n f S := let ⟨es, a, b, c⟩ := h; ⟨es, a.same e, b, c⟩
theorem Bs.x {K : Frag} {H H' : Hp} {x st : Addr} {n : Int} {f : Int → Bool} {S : List Int} {l : List V} (h : Bs K H x n f S) (e : SameX st H H') (hst : H st = some (.lst l)) : Bs K H' x n f S := let ⟨es, a, b, c⟩ := h; ⟨es, a.x e hst, b, c⟩
theorem Bs.slt {K : Frag} {H : Hp} {x : Addr} {n : Int} {f : Int → Bool} {S : List Int} (h : Bs K H x n f S) : ∃ dx vs, SlX.Slt H x (He.ga K "Bitmap") dx vs := let ⟨_, ⟨_, _, _, dx, _, a, _⟩, _⟩ := h; ⟨dx, _, a⟩
theorem sweep_mem {r : Bool → Bool → Bool} {n z : Int} {es fs : List Int} (h1 : Ends n es) (h2 : Ends n fs) (h : z ∈ joinE r es fs) : z ∈ es ∨ z ∈ fs := by
  obtain ⟨_, b, _⟩ := sweep_law r _ es fs false false 0 (Nat.le_refl _) h1.1 h2.1 (fun x hx => (h1.2 x hx).1) (fun x hx => (h2.2 x hx).1)
  exact (b z h).2
section
variable {K : Frag} {H : Hp} {x y : Addr} {n : Int} {f g : Int → Bool} {S : List Int} {Q : VK} {E : XK}
theorem bs_join {r : Bool → Bool → Bool} (kn : Kn S) (h1 : Bs K H x n f S) (h2 : Bs K H y n g S) (h0 : r false false = false) (q : ∀ z H', Same H H' → H z = none → Bs K H' z n (fun row => r (f row) (g row)) S → Q (.ref z) H') : spJoin K r x y H Q E := by
  obtain ⟨es, b1, a1, c1⟩ := h1
  obtain ⟨fs, b2, a2, c2⟩ := h2
  have l1 := asc_len es S b1.2.2.1.1 a1
  have l2 := asc_len fs S b2.2.2.1.1 a2
  have l3 := kn.len
  refine ⟨n, n, es, fs, b1, b2, by omega, by omega, fun _ z H' e nz hz => q z H' e nz ⟨_, hz, fun w hw => ?_, fun row r0 r1 => ?_⟩, fun z => absurd rfl z⟩
  · rcases sweep_mem b1.2.2.1 b2.2.2.1 hw with hw | hw
    · exact a1 w hw
    · exact a2 w hw
  · rw [join_in b1.2.2.1 b2.2.2.1 h0, c1 row r0 r1, c2 row r0 r1]
theorem bs_O2 {P : Prop} (h1 : Bs K H x n f S) (h2 : Bs K H y n g S) (q : P) : IsO K H "Bitmap" x (IsO K H "Bitmap" y P) := by
  obtain ⟨dx, vs, a⟩ := h1.slt
  obtain ⟨dy, ws, b⟩ := h2.slt
  exact .of a (.of b q)
theorem bs_and (kn : Kn S) (h1 : Bs K H x n f S) (h2 : Bs K H y n g S) (q : ∀ z H', Same H H' → H z = none → Bs K H' z n (fun row => rAnd (f row) (g row)) S → Q (.ref z) H') : IsO K H "Bitmap" x (IsO K H "Bitmap" y (sp_Bitmapdd_anddd K [.ref x, .ref y] H Q E)) := bs_O2 h1 h2 ⟨x, y, rfl, bs_join kn h1 h2 rfl q⟩
end
/-! ### lists of them -/
abbrev Slf := Addr × (Int → Bool)
def vF (t : Slf) : V := .ref t.1
def bitsF (M : List Slf) (row : Int) : List Bool := M.map fun t => t.2 row
def Bss (K : Frag) (H : Hp) (n : Int) (S : List Int) (M : List Slf) : Prop := ∀ t ∈ M, Bs K H t.1 n t.2 S
theorem Bss.same {K : Frag} {H H' : Hp} {n : Int} {S : List Int} {M : List Slf} (h : Bss K H n S M) (e : Same H H') : Bss K H' n S M := fun t ht => (h t ht).same e
theorem Bss.x {K : Frag} {H H' : Hp} {n : Int} {S : List Int} {M : List Slf} {st : Addr} {l : List V} (h : Bss K H n S M) (e : SameX st H H') (hst : H st = some (.lst l)) : Bss K H' n S M := fun t ht => (h t ht).x e hst
theorem Bss.sli {K : Frag} {H : Hp} {n : Int} {S : List Int} : ∀ {M : List Slf}, Bss K H n S M → ∃ T : List Sli, M.map vF = T.map vB ∧ T.length = M.length ∧ Bms K H n T ∧ (∀ t ∈ T, ∀ z ∈ t.2, z ∈ S) ∧ ∀ row, 0 ≤ row → row < n → T.map (fun t => inB t.2 row) = bitsF M row
  | [], _ => ⟨[], rfl, rfl, fun _ z => (nomatch z), fun _ z => (nomatch z), fun _ _ _ => rfl⟩
  | m :: M, h => by
    obtain ⟨T, h1, h2, h3, h4, h5⟩ := Bss.sli (M := M) fun t ht => h t (List.mem_cons_of_mem _ ht)
    obtain ⟨es, a, b, c⟩ := h m (List.mem_cons_self ..)
    refine ⟨(m.1, es) :: T, by rw [List.map_cons, List.map_cons, h1]; rfl, by simp [h2], fun t ht => ?_, fun t ht => ?_, fun row r0 r1 => ?_⟩
    · rcases List.mem_cons.mp ht with rfl | ht
      · exact a
      · exact h3 t ht
    · rcases List.mem_cons.mp ht with rfl | ht
      · exact b
      · exact h4 t ht
    · show inB es row :: _ = m.2 row :: _
      rw [c row r0 r1, h5 row r0 r1]; rfl
/-- bitmaps with their ends as such -/
theorem Bms.bss {K : Frag} {H : Hp} {n : Int} {S : List Int} {N : List Sli} (h : Bms K H n N) (hs : ∀ t ∈ N, ∀ z ∈ t.2, z ∈ S) : Bss K H n S (N.map fun t => (t.1, inB t.2)) := fun t ht => by
  obtain ⟨u, hu, rfl⟩ := List.mem_map.mp ht
  exact ⟨u.2, h u hu, hs u hu, fun _ _ _ => rfl⟩
theorem vF_sli (N : List Sli) : (N.map fun t => ((t.1, inB t.2) : Slf)).map vF = N.map vB := by rw [List.map_map]; rfl
theorem bitsF_sli (N : List Sli) (row : Int) : bitsF (N.map fun t => ((t.1, inB t.2) : Slf)) row = (N.map (·.2)).map (fun es => inB es row) := by
  unfold bitsF; rw [List.map_map, List.map_map]; rfl
/-! ### sums, negatives -/
end S
-- deps: Sl Bs
/-! ## numbers of bits, further -/
namespace S
open PySem PySem.Spec PyProof.Rows L2
theorem twos_and (b : Bool) : ∀ bs : List Bool, twos (bs.map fun x => rAnd x b) = if b = true then twos bs else 0
  | [] => by cases b <;> rfl
  | [x] => by cases b <;> cases x <;> rfl
  | x :: y :: r => by
    have ih := twos_and b (y :: r)
    show b2n (rAnd x b) + 2 * twos ((y :: r).map fun x => rAnd x b) = _
    rw [ih]
    cases b
    · rw [if_neg Bool.false_ne_true, if_neg Bool.false_ne_true]; cases x <;> rfl
    · rw [if_pos rfl, if_pos rfl]
      show b2n (rAnd x true) + _ = b2n x + _
      cases x <;> rfl
theorem twos_rangeL {bs : List Bool} (h : bs ≠ []) : -(2 ^ (bs.length - 1) : Int) ≤ twos bs ∧ twos bs < 2 ^ (bs.length - 1) := by
  obtain ⟨A, y, rfl⟩ := one_last bs h
  have := twos_range A y
  simpa using this
theorem pow_up {p q : Nat} (h : p ≤ q) : (2 ^ p : Int) ≤ 2 ^ q := by
  have h1 : ((2 : Int) ^ p) = ((2 ^ p : Nat) : Int) := by simp
  have h2 : ((2 : Int) ^ q) = ((2 ^ q : Nat) : Int) := by simp
  rw [h1, h2]
  exact Int.ofNat_le.mpr (Nat.pow_le_pow_right (by decide) h)
/-- wide: one width less does not do -/
def Wd (len : Nat) (x : Int) : Prop := x < -(2 ^ (len - 2) : Int) ∨ (2 ^ (len - 2) : Int) ≤ x
theorem narrow_row {n : Int} {N T : List Sli} (h : Narrow N T) (hE : ∀ t ∈ T, Ends n t.2) (h1 : 1 < T.length) : ∃ z, 0 ≤ z ∧ z < n ∧ Wd T.length (numL (T.map (·.2)) z) := by
  obtain ⟨A, x, y, rfl⟩ := two_last T h1
  obtain ⟨z, hz, hd⟩ := diff_row x.2 y.2 (hE x (by simp)).1 (hE y (by simp)).1 (h.top A x y rfl)
  have hzr : 0 ≤ z ∧ z < n := by
    rcases hz with hz | hz
    · exact (hE x (by simp)).2 z hz
    · exact (hE y (by simp)).2 z hz
  refine ⟨z, hzr.1, hzr.2, ?_⟩
  have e : numL ((A ++ [x, y]).map (·.2)) z = twos (A.map (fun t => inB t.2 z) ++ [inB x.2 z, inB y.2 z]) := by
    unfold numL; rw [List.map_map, List.map_append]; rfl
  have e2 : (A ++ [x, y]).length - 2 = (A.map (fun t => inB t.2 z)).length := by simp
  unfold Wd
  rw [e, e2]
  exact twos_wide hd
/-- a number's bits -/
def bitI (v : Int) (p : Nat) : Bool := decide ((v / 2 ^ p) % 2 = 1)
theorem bitI_succ (v : Int) (p : Nat) : bitI v (p + 1) = bitI (v / 2) p := by
  unfold bitI
  rw [Int.ediv_ediv_of_nonneg (by decide), Int.pow_succ, Int.mul_comm]
theorem b2n_bit (v : Int) : b2n (bitI v 0) = v % 2 := by
  have e : (v / 2 ^ 0) % 2 = v % 2 := by rw [Int.pow_zero, Int.ediv_one]
  unfold b2n bitI
  rw [e]
  by_cases h : v % 2 = 1
  · rw [decide_eq_true h, if_pos rfl, h]
  · rw [decide_eq_false h, if_neg Bool.false_ne_true]; omega
/-- the bits of a number, its sign beyond -/
theorem twos_bit : ∀ (bs : List Bool) (p : Nat), bs ≠ [] → bitI (twos bs) p = (bs[min p (bs.length - 1)]?).getD false
  | [b], p, _ => by
    have e : min p ([b].length - 1) = 0 := by show min p 0 = 0; omega
    rw [e]
    show bitI (-b2n b) p = b
    cases b
    · show bitI (-0) p = false
      unfold bitI; simp
    · show bitI (-1) p = true
      unfold bitI
      have h2 : (2 : Int) ^ p = ((2 ^ p : Nat) : Int) := by simp
      have hp : 0 < 2 ^ p := Nat.pow_pos (by decide)
      have e3 : (-1 : Int) / 2 ^ p = -1 := by
        rw [h2]
        have := Int.ediv_emod_unique (a := -1) (b := ((2 ^ p : Nat) : Int)) (r := ((2 ^ p : Nat) : Int) - 1) (q := -1) (by omega)
        exact (this.mpr ⟨by omega, by omega, by omega⟩).1
      rw [e3]; rfl
  | b :: c :: r, 0, _ => by
    show bitI (b2n b + 2 * twos (c :: r)) 0 = b
    have e : b2n (bitI (b2n b + 2 * twos (c :: r)) 0) = b2n b := by
      rw [b2n_bit]
      cases b <;> simp [b2n] <;> omega
    cases b <;> cases h : bitI (b2n _ + 2 * twos (c :: r)) 0 <;> rw [h] at e <;> simp [b2n] at e ⊢
  | b :: c :: r, p + 1, _ => by
    show bitI (b2n b + 2 * twos (c :: r)) (p + 1) = _
    have e1 : (b2n b + 2 * twos (c :: r)) / 2 = twos (c :: r) := by cases b <;> simp [b2n] <;> omega
    rw [bitI_succ, e1, twos_bit (c :: r) p (by simp)]
    have e2 : min (p + 1) ((b :: c :: r).length - 1) = min p ((c :: r).length - 1) + 1 := by simp only [List.length_cons]; omega
    rw [e2]; rfl
end S
namespace S
open PySem PySem.Spec PyProof.Rows L2
def t_narrowed_b1 (K : Frag) (E : XK) : TS :=
    tDrop (dML K mPop (dVar 1) tNil)
def t_narrowed_2 (K : Frag) (E : XK) : TS :=
    tRet (dVar 1)
def t_narrowed_1 (K : Frag) (E : XK) : TS :=
    tSeq (dWhile (dAnd (dCmpT oGt (tCB (cLen K) (tCons (dVar 1) (tNil))) (tC (.int 1))) (dCmpT (oEqO K "Bitmap" (sp_Bitmapdd_eqdd K) E) (tOp (oIx K) (dVar 1) (tUn uNeg (tC (.int 1)))) (tOp (oIx K) (dVar 1) (tUn uNeg (tC (.int 2)))))) (t_narrowed_b1 K E))
    (stop (t_narrowed_2 K E))
def t_narrowed (K : Frag) (E : XK) : TS :=
    tSeq (tAsg (tCB (cList K) (tCons (dVar 0) (tNil))) (gName 1))
    (stop (t_narrowed_1 K E))
end S
-- fn: narrowed
-- law: k12
-- own: Eq=Bitmap
-- deps: Sl
namespace S
open PySem PySem.Spec PyProof.Rows L2
def sp_narrowed (K : Frag) : Sp := fun vs H Q _ => ∃ (p : Addr) (n : Int) (M : List Sli), vs = [.ref p] ∧ SqA K H p (M.map vB) ∧ M ≠ [] ∧ Bms K H n M ∧ M.length ≤ 1000000 ∧
  ∀ (q : Addr) (M' : List Sli) (H' : Hp), H q = none → Same H H' → H' q = some (.lst (M'.map vB)) → Narrow M M' → Q (.ref q) H'
theorem pure_narrowed {K : Frag} (vs : List V) (H : Hp) (Q : VK) (E : XK) (h : sp_narrowed K vs H Q E) : t_narrowed K E { nx := fun _ H' => Q .non H', rt := Q } (start ["slices", "kept"] vs) H := by
  obtain ⟨p, n, M, rfl, hp, hne, hb, hlen, q⟩ := h
  walk_at "gx"
  refine ⟨fun d nd => ?_⟩
  walk_at "gx"
  refine ⟨fun m σ H1 => ∃ M1 : List Sli, m = M1.length ∧ σ = [some (.ref p), some (.ref d)] ∧ Same H H1 ∧ H1 d = some (.lst (M1.map vB)) ∧ M1 ≠ [] ∧ (∃ r, M = M1 ++ r) ∧ (∀ row, numL (M1.map (·.2)) row = numL (M.map (·.2)) row),
    ⟨_, M, rfl, rfl, same_new nd, upd_same, hne, ⟨[], by simp⟩, fun _ => rfl⟩, ?_⟩
  rintro m σ H1 ⟨M1, rfl, rfl, e1, hd, hne1, ⟨r, hr⟩, hnum⟩
  walk_at "gx"
  rw [List.length_map]
  refine ifd (fun hl => ?_) (fun hl => ?_)
  · obtain ⟨A, x, y, rfl⟩ := two_last M1 (by omega)
    have hA : (A ++ [x, y]).map vB = (A.map vB ++ [vB x]) ++ [vB y] := by simp
    have hA2 : (A ++ [x, y]).map vB = A.map vB ++ [vB x, vB y] := by simp
    have a1 : atI ((A ++ [x, y]).map vB) (-1) = some (vB y) := by rw [hA]; exact atI_last
    have a2 : atI ((A ++ [x, y]).map vB) (-2) = some (vB x) := by rw [hA2]; exact atI_last2
    have mx : x ∈ M := by rw [hr]; simp
    have my : y ∈ M := by rw [hr]; simp
    have bx := (hb x mx).same e1
    have by' := (hb y my).same e1
    obtain ⟨_, _, _, dx, _, sx, _⟩ := id bx
    obtain ⟨_, _, _, dy, _, sy, _⟩ := id by'
    walk_at "gx"
    refine EqOr.own sy sx ⟨y.1, x.1, n, n, y.2, x.2, rfl, by', bx, ?_⟩
    refine ifd (fun he => ?_) (fun he => ?_)
    · walk_at "gx"
      · have e3 : ((A ++ [x, y]).map vB).dropLast = (A ++ [x]).map vB := by rw [hA, List.dropLast_concat]; simp
        rw [e3]
        refine ⟨(A ++ [x]).length, by simp, A ++ [x], rfl, rfl, Same.mut e1 nd, upd_same, by simp, ⟨y :: r, by rw [hr]; simp⟩, fun row => ?_⟩
        rw [← hnum row]
        unfold numL
        simp only [List.map_append, List.map_cons, List.map_nil]
        rw [he.2]
        exact (twos_dup _ _).symm
    · exact ⟨q d _ H1 nd e1 hd ⟨hne1, ⟨r, hr⟩, hnum, fun A' x' y' h => by
        have := List.append_inj' h rfl
        obtain ⟨_, h2⟩ := this
        simp only [List.cons.injEq, and_true] at h2
        obtain ⟨rfl, rfl⟩ := h2
        exact fun z => he ⟨rfl, z.symm⟩⟩⟩
  · exact ⟨q d _ H1 nd e1 hd ⟨hne1, ⟨r, hr⟩, hnum, fun A' x' y' h => by rw [h] at hl; simp at hl; omega⟩⟩
end S
namespace S
open PySem PySem.Spec PyProof.Rows L2
def t__law_draw_7 (K : Frag) (E : XK) : TS :=
    tRet (tOp oMod (tCB cInt (tCons (dVar 6) (tNil))) (dVar 2))
def t__law_draw_6 (K : Frag) (E : XK) : TS :=
    tSeq (tAsg (tOp oMod (tCB cInt (tCons (tOp oMulA (dVar 6) (dVar 6)) (tNil))) (tC (.int 999983))) (gName 6))
    (stop (t__law_draw_7 K E))
def t__law_draw_5 (K : Frag) (E : XK) : TS :=
    tSeq (tAsg (tOp oMod (tCB cInt (tCons (tOp (oAdd K) (tOp oMulA (dVar 6) (dVar 6)) (dVar 4)) (tNil))) (tC (.int 1000003))) (gName 6))
    (stop (t__law_draw_6 K E))
def t__law_draw_4 (K : Frag) (E : XK) : TS :=
    tSeq (tAsg (tOp oMod (tCB cInt (tCons (tOp (oAdd K) (tOp oMulA (dVar 4) (tOp (oAdd K) (tOp (oAdd K) (tC (.int 48271)) (tOp oMulA (tC (.int 7919)) (tOp (oIx K) (dVar 1) (tC (.int 1))))) (tOp oMulA (tC (.int 104729)) (tOp (oIx K) (dVar 1) (tC (.int 0)))))) (tOp oMulA (tC (.int 611953)) (tOp (oIx K) (dVar 1) (tC (.int 3))))) (tNil))) (tC (.int 2147483647))) (gName 6))
    (stop (t__law_draw_5 K E))
def t__law_draw_3 (K : Frag) (E : XK) : TS :=
    tSeq (dIfS (dCmpT (oEq K) (tOp (oIx K) (dVar 1) (tC (.int 3))) (tC (.int 2))) (tSeq (tAsg (tOp oFdiv (dVar 4) (tC (.int 1000))) (gSub (dVar 1) (tC (.int 2)) oSet))
    (tSeq (dIfS (dCmpT (oEq K) (tOp (oIx K) (dVar 1) (tC (.int 2))) (tC (.int 0))) (tAsg (tC (.int 0)) (gSub (dVar 1) (tC (.int 1)) oSet)) (tNext))
    (tSeq (tAsg (tOp oMod (tCB cInt (tCons (dVar 4) (tNil))) (tC (.int 1000))) (gName 5))
    (tRet (tOp oMod (tCB cInt (tCons (dVar 5) (tNil))) (dVar 2)))))) (tNext))
    (stop (t__law_draw_4 K E))
def t__law_draw_2 (K : Frag) (E : XK) : TS :=
    tSeq (tAsg (tCB cInt (tCons (tOp (oIx K) (dVar 1) (tC (.int 2))) (tNil))) (gName 4))
    (stop (t__law_draw_3 K E))
def t__law_draw_1 (K : Frag) (E : XK) : TS :=
    tSeq (tAsg (tOp oSub (tOp (oIx K) (dVar 1) (tC (.int 1))) (tC (.int 1))) (gSub (dVar 1) (tC (.int 1)) oSet))
    (stop (t__law_draw_2 K E))
def t__law_draw (K : Frag) (E : XK) : TS :=
    tSeq (dIfS (dCmpT (oEq K) (tOp (oIx K) (dVar 1) (tC (.int 1))) (tC (.int 0))) (tSeq (tAsg (tOp (oIx K) (dVar 1) (tC (.int 0))) (gName 3))
    (tSeq (tAsg (tOp (oAdd K) (dVar 3) (tC (.int 1))) (gSub (dVar 1) (tC (.int 0)) oSet))
    (tSeq (dIfS (dCmpT oGe (dVar 3) (tCB (cLen K) (tCons (dVar 0) (tNil)))) (tRet (tC (.int 0))) (tNext))
    (tSeq (tAsg (tCB cAbs (tCons (tOp (oIx K) (dVar 0) (dVar 3)) (tNil))) (gSub (dVar 1) (tC (.int 2)) oSet))
    (tSeq (tAsg (tCB cInt (tCons (tOp oLt (tOp (oIx K) (dVar 0) (dVar 3)) (tC (.int 0))) (tNil))) (gSub (dVar 1) (tC (.int 3)) oSet))
    (tSeq (tAsg (tC (.int 12)) (gSub (dVar 1) (tC (.int 1)) oSet))
    (dIfS (dCmpT oGe (tOp (oIx K) (dVar 1) (tC (.int 2))) (tOp oPow (tC (.int 10)) (tC (.int 18)))) (tSeq (tAsg (tC (.int 60)) (gSub (dVar 1) (tC (.int 1)) oSet))
    (tAsg (tC (.int 2)) (gSub (dVar 1) (tC (.int 3)) oSet))) (tNext)))))))) (tNext))
    (stop (t__law_draw_1 K E))
end S
-- fn: _law_draw
-- law: k03
-- deps: D0
namespace S
open PySem PySem.Spec PyProof.Rows L2
theorem pure__law_draw {K : Frag} (vs : List V) (H : Hp) (Q : VK) (E : XK) (h : sp__law_draw K vs H Q E) : t__law_draw K E { nx := fun _ H' => Q .non H', rt := Q } (start ["_law_script", "_law_state", "_law_base", "_law_here", "_law_number", "_law_digit", "_law_mixed"] vs) H := by
  obtain ⟨a, st, base, rfl, ⟨⟨ns, hscr⟩, l, hl, A, B, N, k, rfl, hA, hN, hd⟩, hb, q⟩ := h

  have hsl : ∀ H1, SameX st H H1 → SqL K H1 a (ns.map V.int) := fun H1 e => (hscr.x e).sl
  have fin : ∀ (x : Int) (l : List V) (H1 : Hp), SameX st H H1 → H1 st = some (.lst l) → DrawSt l → Q (.int (x % base)) H1 := fun x l H1 e h d =>
    q _ _ (Int.emod_nonneg _ (by omega)) (Int.emod_lt_of_pos _ hb) ⟨⟨ns, hscr.x e⟩, l, h, d⟩ e
  have tail : ∀ (A B N k : Int) (w : Option V) (H' : Hp), 0 ≤ A → 0 ≤ N → (k = 2 ∨ N < 10 ^ 18) → SameX st H H' → H' st = some (.lst [.int A, .int B, .int N, .int k]) →
      t__law_draw_1 K E { nx := fun _ H' => Q .non H', rt := Q } [some (.ref a), some (.ref st), some (.int base), w, none, none, none] H' := by
    intro A B N k w H' hA hN hk hs hl
    have h1000 : 0 ≤ N / 1000 := Int.ediv_nonneg hN (by decide)
    walk_at "gx"
    refine ifd (fun hk2 => ?_) (fun hk2 => ?_)
    · walk_at "gx"
      refine ifd (fun hz => ?_) (fun hz => ?_)
      · walk_at "gx"
        exact fin _ _ _ (hs.trans (SameX.upd.trans (SameX.upd.trans SameX.upd))) upd_same ⟨_, _, _, _, rfl, hA, h1000, .inl rfl⟩
      · walk_at "gx"
        exact fin _ _ _ (hs.trans (SameX.upd.trans SameX.upd)) upd_same ⟨_, _, _, _, rfl, hA, h1000, .inr (.inl hk2)⟩
    · have hN2 : N < 10 ^ 18 := by omega
      walk_at "gx"
      exact fin _ _ _ (hs.trans SameX.upd) upd_same ⟨_, _, _, _, rfl, hA, hN, .inr (.inr hN2)⟩
  walk_at "go"
  refine ifd (fun hB => ?_) (fun hB => ?_)
  · walk_at "go"
    rw [List.length_map]
    refine ifd (fun hlen => ?_) (fun hlen => ?_)
    · exact q 0 _ (Int.le_refl 0) hb ⟨⟨ns, hscr.x SameX.upd⟩, _, upd_same, _, _, _, _, rfl, by omega, hN, hd⟩ SameX.upd
    · obtain ⟨x, hx⟩ := at_ints (ns := ns) hA (by omega)
      walk_at "go"
      refine ifd (fun hbig => ?_) (fun hbig => ?_)
      · walk_at "go"
        exact ⟨tail _ _ _ _ _ _ (by omega) (by omega) (.inl rfl) (SameX.upd.trans (SameX.upd.trans (SameX.upd.trans (SameX.upd.trans (SameX.upd.trans SameX.upd))))) upd_same⟩
      · have hb2 : ¬ ((10 : Int) ^ 18 ≤ x.natAbs) := hbig
        exact ⟨tail _ _ _ _ _ _ (by omega) (by omega) (.inr (by omega)) (SameX.upd.trans (SameX.upd.trans (SameX.upd.trans SameX.upd))) upd_same⟩
  · exact ⟨tail A B N k _ H hA hN (by omega) (SameX.refl _ _) hl⟩
end S
namespace S
open PySem PySem.Spec PyProof.Rows L2
def t__law_wide_b1 (K : Frag) (E : XK) : TS :=
    tAsg (tOp (oAdd K) (tOp oMulA (dVar 3) (tC (.int 1000))) (dCall (sp__law_draw K) (EW E) (tCons (dVar 0) (tCons (dVar 1) (tCons (tC (.int 1000)) (tNil)))))) (gName 3)
def t__law_wide_2 (K : Frag) (E : XK) : TS :=
    tRet (tOp oMod (tCB cInt (tCons (dVar 3) (tNil))) (dVar 2))
def t__law_wide_1 (K : Frag) (E : XK) : TS :=
    tSeq (dFor (iRng (tCons (tC (.int 6)) (tNil))) (gName 4) (t__law_wide_b1 K E))
    (stop (t__law_wide_2 K E))
def t__law_wide (K : Frag) (E : XK) : TS :=
    tSeq (tAsg (tC (.int 0)) (gName 3))
    (stop (t__law_wide_1 K E))
end S
-- fn: _law_wide
-- law: k03
-- deps: D0
namespace S
open PySem PySem.Spec PyProof.Rows L2
def sp__law_wide (K : Frag) : Sp := fun vs H Q _ => ∃ (a st : Addr) (lim : Int), vs = [.ref a, .ref st, .int lim] ∧ Ctx K H a st ∧ 0 < lim ∧
  ∀ (r : Int) (H' : Hp), 0 ≤ r → r < lim → Ctx K H' a st → SameX st H H' → Q (.int r) H'
theorem pure__law_wide {K : Frag} (vs : List V) (H : Hp) (Q : VK) (E : XK) (h : sp__law_wide K vs H Q E) : t__law_wide K E { nx := fun _ H' => Q .non H', rt := Q } (start ["_law_script", "_law_state", "_law_limit", "_law_number", "_law_k"] vs) H := by
  obtain ⟨a, st, lim, rfl, hc, hl, q⟩ := h
  walk_at "gx"
  refine for_rng (fun i σ H1 => ∃ (n : Int) (k : Option V), σ = [some (.ref a), some (.ref st), some (.int lim), some (.int n), k] ∧ Ctx K H1 a st ∧ SameX st H H1) ⟨0, none, rfl, hc, SameX.refl _ _⟩ ?_ ?_
  · rintro i σ H1 hi ⟨n, k, rfl, c1, e1⟩
    walk_at "gx"
    refine ⟨a, st, _, rfl, c1, by decide, fun r H2 h0 h1 c2 e2 => ?_⟩
    exact ⟨_, _, rfl, c2, e1.trans e2⟩
  · rintro σ H1 ⟨n, k, rfl, c1, e1⟩
    walk_at "gx"
    exact q _ _ (Int.emod_nonneg _ (by omega)) (Int.emod_lt_of_pos _ hl) c1 e1
end S
namespace S
open PySem PySem.Spec PyProof.Rows L2
def t__law_ends_b1_5 (K : Frag) (E : XK) : TS :=
    tAsg (tOp (oAdd K) (dVar 5) (tC (.int 1))) (gName 5)
def t__law_ends_b1_4 (K : Frag) (E : XK) : TS :=
    tSeq (dIfS (dCmpT oLt (dVar 5) (dVar 2)) (tDrop (dML K mApp (dVar 4) (tCons (dVar 5) (tNil)))) (tNext))
    (stop (t__law_ends_b1_5 K E))
def t__law_ends_b1_3 (K : Frag) (E : XK) : TS :=
    tSeq (dIfS (dCmpT (oEq K) (dVar 7) (tC (.int 3))) (tAsg (tOp (oAdd K) (dVar 5) (dCall (sp__law_wide K) (EW E) (tCons (dVar 0) (tCons (dVar 1) (tCons (tOp (oAdd K) (dVar 2) (tC (.int 1))) (tNil)))))) (gName 5)) (tNext))
    (stop (t__law_ends_b1_4 K E))
def t__law_ends_b1_2 (K : Frag) (E : XK) : TS :=
    tSeq (dIfS (dCmpT (oEq K) (dVar 7) (tC (.int 2))) (tAsg (tOp (oAdd K) (dVar 5) (dCall (sp__law_wide K) (EW E) (tCons (dVar 0) (tCons (dVar 1) (tCons (tOp (oAdd K) (tOp oFdiv (dVar 2) (tC (.int 8))) (tC (.int 1))) (tNil)))))) (gName 5)) (tNext))
    (stop (t__law_ends_b1_3 K E))
def t__law_ends_b1_1 (K : Frag) (E : XK) : TS :=
    tSeq (dIfS (dCmpT (oEq K) (dVar 7) (tC (.int 1))) (tAsg (tOp (oAdd K) (dVar 5) (dCall (sp__law_draw K) (EW E) (tCons (dVar 0) (tCons (dVar 1) (tCons (tC (.int 4)) (tNil)))))) (gName 5)) (tNext))
    (stop (t__law_ends_b1_2 K E))
def t__law_ends_b1 (K : Frag) (E : XK) : TS :=
    tSeq (tAsg (dCall (sp__law_draw K) (EW E) (tCons (dVar 0) (tCons (dVar 1) (tCons (tC (.int 4)) (tNil))))) (gName 7))
    (stop (t__law_ends_b1_1 K E))
def t__law_ends_3 (K : Frag) (E : XK) : TS :=
    tRet (dVar 4)
def t__law_ends_2 (K : Frag) (E : XK) : TS :=
    tSeq (dFor (iRng (tCons (dCall (sp__law_draw K) (EW E) (tCons (dVar 0) (tCons (dVar 1) (tCons (tOp (oAdd K) (dVar 3) (tC (.int 1))) (tNil))))) (tNil))) (gName 6) (t__law_ends_b1 K E))
    (stop (t__law_ends_3 K E))
def t__law_ends_1 (K : Frag) (E : XK) : TS :=
    tSeq (tAsg (tC (.int 0)) (gName 5))
    (stop (t__law_ends_2 K E))
def t__law_ends (K : Frag) (E : XK) : TS :=
    tSeq (tAsg (dLst (tNil)) (gName 4))
    (stop (t__law_ends_1 K E))
end S
-- fn: _law_ends
-- law: k03
-- deps: D0 _law_wide
namespace S
open PySem PySem.Spec PyProof.Rows L2
/-- a new list of at most so many ends within the size -/
def sp__law_ends (K : Frag) : Sp := fun vs H Q _ => ∃ (a st : Addr) (size most : Int), vs = [.ref a, .ref st, .int size, .int most] ∧ Ctx K H a st ∧ 0 ≤ size ∧ size ≤ 10 ^ 18 ∧ 0 ≤ most ∧ most ≤ 1000 ∧
  ∀ (p : Addr) (ns : List Int) (H' : Hp), H p = none → H' p = some (.lst (ns.map V.int)) → Ends size ns → (ns.length : Int) ≤ most → Ctx K H' a st → SameX st H H' → Q (.ref p) H'
def inv__law_ends (K : Frag) (H : Hp) (a st p : Addr) (size most : Int) (i : Nat) (σ : L2.St) (H2 : Hp) : Prop := ∃ (at_ : Int) (ns : List Int) (k kd : Option V),
  σ = [some (.ref a), some (.ref st), some (.int size), some (.int most), some (.ref p), some (.int at_), k, kd] ∧
  H2 p = some (.lst (ns.map V.int)) ∧ Ends size ns ∧ (∀ x ∈ ns, x < at_) ∧ 0 ≤ at_ ∧ ns.length ≤ i ∧ Ctx K H2 a st ∧ SameX st H H2
theorem pure__law_ends {K : Frag} (vs : List V) (H : Hp) (Q : VK) (E : XK) (h : sp__law_ends K vs H Q E) : t__law_ends K E { nx := fun _ H' => Q .non H', rt := Q } (start ["_law_script", "_law_state", "_law_size_here", "_law_most", "_law_ends_here", "_law_at", "_law_k", "_law_kind"] vs) H := by
  obtain ⟨a, st, size, most, rfl, hc, hs0, hs1, hm0, hm1, q⟩ := h
  walk_at "gx"
  refine ⟨fun p hp => ?_⟩
  have cp : Ctx K (upd H p (.lst [])) a st := hc.mut hc hp
  walk_at "gx"
  refine ⟨a, st, _, rfl, cp, show 0 < most + 1 by omega, fun cnt H1 h0 h1 c1 e1 => ?_⟩
  have h1' : cnt < most + 1 := h1
  have npst : p ≠ st := by
    obtain ⟨_, l, hl, _⟩ := hc
    exact (ne_of_none hl hp).symm
  have hp1 : H1 p = some (.lst []) := e1 _ _ upd_same npst
  have e0 : SameX st H H1 := fun b o hb n => e1 b o (by rw [upd_ne (ne_of_none hb hp)]; exact hb) n
  walk_at "gx"
  refine for_rng (inv__law_ends K H a st p size most) ⟨0, [], none, none, rfl, hp1, ⟨.nil, fun _ z => nomatch z⟩, fun _ z => (nomatch z), Int.le_refl _, Nat.le_refl _, c1, e0⟩ ?_ ?_
  · rintro i σ H2 hi ⟨at_, ns, k, kd, rfl, hl, hE, hb, h0, hlen, c2, e2⟩
    walk_at "gx"
    refine ⟨a, st, _, rfl, c2, by decide, fun kind H3 k0 k1 c3 e3 => ?_⟩
    have hl3 : H3 p = some (.lst (ns.map V.int)) := e3 _ _ hl npst
    -- behind the three ifs: at_ has grown
    have tail : ∀ (D : L2.Ends) (at2 : Int) (H4 : Hp), (∀ σ H', inv__law_ends K H a st p size most (i + 1) σ H' → D.nx σ H') → at_ ≤ at2 → H4 p = some (.lst (ns.map V.int)) → Ctx K H4 a st → SameX st H H4 →
        t__law_ends_b1_4 K E D [some (.ref a), some (.ref st), some (.int size), some (.int most), some (.ref p), some (.int at2), some (.int i), some (.int kind)] H4 := by
      intro D at2 H4 hD hge hl4 c4 e4
      walk_at "gx"
      refine ifd (fun hlt => ?_) (fun hlt => ?_)
      · walk_at "gx"
        refine hD _ _ ⟨at2 + 1, ns ++ [at2], _, _, rfl, by rw [List.map_append]; exact upd_same, hE.snoc (fun x hx => Int.lt_of_lt_of_le (hb x hx) hge) (by omega) hlt, fun x hx => ?_, by omega, by rw [List.length_append]; show ns.length + 1 ≤ i + 1; omega, c4.mut hc hp, e4.mut hp⟩
        rcases List.mem_append.mp hx with hx | hx
        · have := hb x hx; omega
        · rw [List.mem_singleton.mp hx]; omega
      · walk_at "gx"
        exact hD _ _ ⟨at2 + 1, ns, _, _, rfl, hl4, hE, fun x hx => by have := hb x hx; omega, by omega, by omega, c4, e4⟩
    walk_at "gx"
    refine ifd (fun hk => ?_) (fun hk => ?_)
    · walk_at "gx"
      refine ⟨a, st, _, rfl, c3, by decide, fun d H4 d0 d1 c4 e4 => ?_⟩
      walk_at "gx"
      refine iff' (by omega) ?_
      walk_at "gx"
      refine iff' (by omega) ?_
      exact ⟨tail _ (at_ + d) H4 (fun _ _ z => z) (by omega) (e4 _ _ hl3 npst) c4 ((e2.trans e3).trans e4)⟩
    walk_at "gx"
    refine ifd (fun hk => ?_) (fun hk => ?_)
    · walk_at "gx"
      refine ⟨a, st, _, rfl, c3, show 0 < size / 8 + 1 by omega, fun d H4 d0 d1 c4 e4 => ?_⟩
      walk_at "gx"
      refine iff' (by omega) ?_
      exact ⟨tail _ (at_ + d) H4 (fun _ _ z => z) (by omega) (e4 _ _ hl3 npst) c4 ((e2.trans e3).trans e4)⟩
    walk_at "gx"
    refine ifd (fun hk => ?_) (fun hk => ?_)
    · walk_at "gx"
      refine ⟨a, st, _, rfl, c3, show 0 < size + 1 by omega, fun d H4 d0 d1 c4 e4 => ?_⟩
      exact ⟨tail _ (at_ + d) H4 (fun _ _ z => z) (by omega) (e4 _ _ hl3 npst) c4 ((e2.trans e3).trans e4)⟩
    · exact ⟨tail _ at_ H3 (fun _ _ z => z) (Int.le_refl _) hl3 c3 (e2.trans e3)⟩
  · rintro σ H2 ⟨at_, ns, k, kd, rfl, hl, hE, hb, h0, hlen, c2, e2⟩
    walk_at "gx"
    exact q p ns H2 hp hl hE (by omega) c2 e2
end S
namespace S
open PySem PySem.Spec PyProof.Rows L2
def t__law_places_b1 (K : Frag) (E : XK) : TS :=
    dIfS (dAnd (dCmpT (oEq K) (dCall (sp__law_draw K) (EW E) (tCons (dVar 0) (tCons (dVar 1) (tCons (tC (.int 4)) (tNil))))) (tC (.int 1))) (dCmpT oGt (dVar 6) (tC (.int 0)))) (tDrop (dML K mApp (dVar 5) (tCons (tCB (cList K) (tCons (tOp (oIx K) (dVar 5) (tOp oSub (dVar 6) (tC (.int 1)))) (tNil))) (tNil)))) (tDrop (dML K mApp (dVar 5) (tCons (dCall (sp__law_ends K) (EW E) (tCons (dVar 0) (tCons (dVar 1) (tCons (dVar 2) (tCons (dVar 3) (tNil)))))) (tNil))))
def t__law_places_2 (K : Frag) (E : XK) : TS :=
    tRet (dVar 5)
def t__law_places_1 (K : Frag) (E : XK) : TS :=
    tSeq (dFor (iRng (tCons (tOp (oAdd K) (tC (.int 1)) (dCall (sp__law_draw K) (EW E) (tCons (dVar 0) (tCons (dVar 1) (tCons (dVar 4) (tNil)))))) (tNil))) (gName 6) (t__law_places_b1 K E))
    (stop (t__law_places_2 K E))
def t__law_places (K : Frag) (E : XK) : TS :=
    tSeq (tAsg (dLst (tNil)) (gName 5))
    (stop (t__law_places_1 K E))
end S
-- fn: _law_places
-- law: k12
-- deps: Sl _law_draw _law_ends
namespace S
open PySem PySem.Spec PyProof.Rows L2
/-- new lists of ends -/
def sp__law_places (K : Frag) : Sp := fun vs H Q _ => ∃ (a st : Addr) (n most cnt : Int), vs = [.ref a, .ref st, .int n, .int most, .int cnt] ∧ Ctx K H a st ∧ 0 ≤ n ∧ n ≤ 10 ^ 18 ∧ 0 ≤ most ∧ most ≤ 1000 ∧ 0 < cnt ∧ cnt ≤ 100 ∧
  ∀ (p : Addr) (M : List Sli) (H' : Hp), H p = none → H' p = some (.lst (M.map vB)) → Lss H' n most.toNat M → (∀ t ∈ M, H t.1 = none ∧ t.1 ≠ p) → M ≠ [] → (M.length : Int) ≤ cnt → Ctx K H' a st → SameX st H H' → Q (.ref p) H'
theorem SameX.none {st : Addr} {H H' : Hp} {p : Addr} (e : SameX st H H') (h : H' p = none) (n : p ≠ st) : H p = none := by
  cases x : H p with
  | none => rfl
  | some o => rw [e _ _ x n] at h; cases h
theorem same_none {H H' : Hp} {p : Addr} (e : Same H H') (h : H' p = none) : H p = none := by
  cases x : H p with
  | none => rfl
  | some o => rw [e _ _ x] at h; cases h
def t__law_places_b1e (K : Frag) (E : XK) : TS :=
    tDrop (dML K mApp (dVar 5) (tCons (dCall (sp__law_ends K) (EW E) (tCons (dVar 0) (tCons (dVar 1) (tCons (dVar 2) (tCons (dVar 3) (tNil)))))) (tNil)))
def inv__law_places (K : Frag) (H : Hp) (a st p : Addr) (n most cnt : Int) (i : Nat) (σ : L2.St) (H2 : Hp) : Prop := ∃ (M : List Sli) (k : Option V), M.length = i ∧ σ = [some (.ref a), some (.ref st), some (.int n), some (.int most), some (.int cnt), some (.ref p), k] ∧ H2 p = some (.lst (M.map vB)) ∧ Lss H2 n most.toNat M ∧ (∀ t ∈ M, H t.1 = none ∧ t.1 ≠ p ∧ t.1 ≠ st) ∧ Ctx K H2 a st ∧ SameX st H H2
theorem pure__law_places {K : Frag} (vs : List V) (H : Hp) (Q : VK) (E : XK) (h : sp__law_places K vs H Q E) : t__law_places K E { nx := fun _ H' => Q .non H', rt := Q } (start ["_law_script", "_law_state", "_law_size_here", "_law_most", "_law_count", "_law_lists", "_law_k"] vs) H := by
  obtain ⟨a, st, n, most, cnt, rfl, hc, n0, n1, m0, m1, c0, c1, q⟩ := h
  walk_at "gx"
  refine ⟨fun p hp => ?_⟩
  have e0 : Same H (upd H p (.lst [])) := same_new hp
  have pst : p ≠ st := ctx_ne hc hp
  walk_at "gx"
  refine ⟨a, st, _, rfl, hc.same e0, c0, fun r H1 r0 r1 cx1 e1 => ?_⟩
  have r1' : r < cnt := r1
  have hp1 := e1 _ _ (upd_same : upd H p (.lst []) p = _) pst
  walk_at "gx"
  refine for_rng (inv__law_places K H a st p n most cnt) ⟨[], none, rfl, rfl, hp1, fun _ z => (nomatch z), fun _ z => (nomatch z), cx1, Same.thenX e0 e1⟩ ?_ ?_
  · rintro i σ H2 hi ⟨M, k, hM, rfl, hp2, hL, hf, cx2, e2⟩
    have go : ∀ (x : Addr) (H3 : Hp) (es : List Int), H2 x = none → SameX st H2 H3 → Ctx K H3 a st → H3 x = some (.lst (es.map V.int)) → Ends n es → es.length ≤ most.toNat → ∀ k : Option V,
        inv__law_places K H a st p n most cnt (i + 1) [some (V.ref a), some (.ref st), some (.int n), some (.int most), some (.int cnt), some (.ref p), k] (L2.upd H3 p (.lst (M.map vB ++ [V.ref x]))) := by
      intro x H3 es nx e3 cx3 hx hE hl k
      have xst : x ≠ st := ctx_ne cx2 nx
      have xp : x ≠ p := (ne_of_none hp2 nx).symm
      have hu : SameX p H3 (L2.upd H3 p (.lst (M.map vB ++ [V.ref x]))) := SameX.upd
      refine ⟨M ++ [(x, es)], k, by simp [hM], rfl, by rw [upd_same, List.map_append]; rfl, fun t ht => ?_, fun t ht => ?_, cx3.mut hc hp, fun b o hb hn => hu _ _ (e3 _ _ (e2 _ _ hb hn) hn) (ne_of_none hb hp)⟩
      · rcases List.mem_append.mp ht with ht | ht
        · obtain ⟨a1, a2, a3⟩ := hL t ht
          obtain ⟨_, b1, b2⟩ := hf t ht
          exact ⟨hu _ _ (e3 _ _ a1 b2) b1, a2, a3⟩
        · rw [List.mem_singleton.mp ht]
          exact ⟨hu _ _ hx xp, hE, hl⟩
      · rcases List.mem_append.mp ht with ht | ht
        · exact hf t ht
        · rw [List.mem_singleton.mp ht]
          exact ⟨e2.none nx xst, xp, xst⟩
    have ends : ∀ (H3 : Hp) (k : Option V) (D : L2.Ends), SameX st H2 H3 → Ctx K H3 a st → (∀ σ' H', inv__law_places K H a st p n most cnt (i + 1) σ' H' → D.nx σ' H') →
        t__law_places_b1e K E D [some (V.ref a), some (.ref st), some (.int n), some (.int most), some (.int cnt), some (.ref p), k] H3 := by
      intro H3 k D e3 cx3 kk
      have hp3 := e3 _ _ hp2 pst
      unfold t__law_places_b1e
      walk_at "gx"
      refine ⟨a, st, n, most, rfl, cx3, n0, n1, m0, m1, fun x es H4 nx hx hE hl cx4 e4 => ?_⟩
      have hp4 := e4 _ _ hp3 pst
      walk_at "gx"
      exact kk _ _ (go x H4 es (e3.none nx (ctx_ne cx3 nx)) (e3.trans e4) cx4 hx hE (by omega) k)
    walk_at "gx"
    refine ⟨a, st, _, rfl, cx2, by decide, fun kd H3 _ _ cx3 e3 => ?_⟩
    have hp3 := e3 _ _ hp2 pst
    walk_at "gx"
    refine ifd (fun h1 => ?_) (fun h1 => ?_)
    · walk_at "gx"
      refine ifd (fun h2 => ?_) (fun h2 => ?_)
      · have hj : (i - 1) < M.length := by omega
        have hg : M[i - 1]? = some M[i - 1] := List.getElem?_eq_getElem hj
        have hm := List.getElem_mem hj
        generalize M[i - 1] = t at *
        obtain ⟨a1, a2, a3⟩ := hL t hm
        have b1 := e3 _ _ a1 (hf t hm).2.2
        have ha : atI (M.map vB) ((i : Int) - 1) = some (.ref t.1) := by
          rw [show (i : Int) - 1 = ((i - 1 : Nat) : Int) by omega]
          exact atI_nat (by rw [List.getElem?_map, hg]; rfl)
        walk_at "gx"
        refine ⟨fun x nx => ?_⟩
        have e4 := same_new (o := .lst (t.2.map V.int)) nx
        have hp4 := e4 _ _ hp3
        walk_at "gx"
        exact go x _ t.2 (e3.none nx (ctx_ne cx3 nx)) (e3.then e4) (cx3.same e4) upd_same a2 a3 _
      · exact ends H3 _ _ e3 cx3 fun σ' H' z => z
    · exact ends H3 _ _ e3 cx3 fun σ' H' z => z
  · rintro σ H2 ⟨M, k, hM, rfl, hp2, hL, hf, cx2, e2⟩
    refine ⟨q p M H2 hp hp2 hL (fun t ht => ⟨(hf t ht).1, (hf t ht).2.1⟩) (fun z => ?_) (by omega) cx2 e2⟩
    rw [z] at hM
    have hM : (0 : Nat) = (1 + r).toNat := hM
    omega
end S
namespace S
open PySem PySem.Spec PyProof.Rows L2
def t_Columndd_initdd_b1 (K : Frag) (E : XK) : TS :=
    dIfS (dCmpT (oNe K) (dAt K "size" (dVar 3)) (dAt K "size" (dVar 1))) (dGivS (ExF K "SizesDiffer" ["SliceError"]) (dRaise K "SizesDiffer" (WD E))) (tNext)
def t_Columndd_initdd_5 (K : Frag) (E : XK) : TS :=
    dSto K "width" (tCB (cLen K) (tCons (dAt K "slices" (dVar 0)) (tNil))) (dVar 0)
def t_Columndd_initdd_4 (K : Frag) (E : XK) : TS :=
    tSeq (dSto K "slices" (tCB (cTuple K) (tCons (dCall (sp_narrowed K) (EW E) (tCons (dLc (iSeq K (dVar 2)) (gName 3) (tYes) (tOp (oOwn K "Bitmap" (sp_Bitmapdd_anddd K) E0 oAnd) (dVar 3) (dVar 1)) [3]) (tNil))) (tNil))) (dVar 0))
    (stop (t_Columndd_initdd_5 K E))
def t_Columndd_initdd_3 (K : Frag) (E : XK) : TS :=
    tSeq (dSto K "presence" (dVar 1) (dVar 0))
    (stop (t_Columndd_initdd_4 K E))
def t_Columndd_initdd_2 (K : Frag) (E : XK) : TS :=
    tSeq (dSto K "size" (dAt K "size" (dVar 1)) (dVar 0))
    (stop (t_Columndd_initdd_3 K E))
def t_Columndd_initdd_1 (K : Frag) (E : XK) : TS :=
    tSeq (dFor (iSeq K (dVar 2)) (gName 3) (t_Columndd_initdd_b1 K E))
    (stop (t_Columndd_initdd_2 K E))
def t_Columndd_initdd (K : Frag) (E : XK) : TS :=
    tSeq (dIfS (dCmpT (oEq K) (tCB (cLen K) (tCons (dVar 2) (tNil))) (tC (.int 0))) (dGivS (ExF K "BadColumn" ["SliceError"]) (dRaise K "BadColumn" (WD E))) (tNext))
    (stop (t_Columndd_initdd_1 K E))
end S
-- fn: Column.__init__
-- law: k15
-- own: BitAnd=Bitmap
-- deps: Tw narrowed Bs Lc Bitmap_init _law_places
namespace S
open PySem PySem.Spec PyProof.Rows L2
abbrev CmF (K : Frag) : Prop := CF K "Column" ["presence", "size", "slices", "width"]
/-- a column: the value of each row, its slices the fewest -/
def Cm (K : Frag) (H : Hp) (a : Addr) (n : Int) (vf : Int → Option Int) (S : List Int) : Prop := CmF K ∧ 0 ≤ n ∧ Kn S ∧ ∃ (dx p q : Addr) (M : List Slf), SlX.Slt H a (He.ga K "Column") dx [some (.ref p), some (.int n), some (.ref q), some (.int (M.length : Nat))] ∧
  Bs K H p n (fun r => (vf r).isSome) S ∧ SqT K H q (M.map vF) ∧ Bss K H n S M ∧ M ≠ [] ∧ M.length ≤ 1000 ∧ (∀ row, 0 ≤ row → row < n → twos (bitsF M row) = (vf row).getD 0) ∧ (1 < M.length → ∃ row, 0 ≤ row ∧ row < n ∧ Wd M.length ((vf row).getD 0))
theorem Cm.same {K : Frag} {H H' : Hp} {a : Addr} {n : Int} {vf : Int → Option Int} {S : List Int} (h : Cm K H a n vf S) (e : Same H H') : Cm K H' a n vf S := by
  obtain ⟨c, n0, kn, dx, p, q, M, h1, h2, h3, h4, h5, h6, h7, h8⟩ := h
  exact ⟨c, n0, kn, dx, p, q, M, Same.slt e h1, h2.same e, Same.tup e h3, h4.same e, h5, h6, h7, h8⟩
def colF (pf : Int → Bool) (M : List Slf) : Int → Option Int := fun row => if pf row = true then some (twos (bitsF M row)) else none
def sp_Columndd_initdd (K : Frag) : Sp := fun vs H Q E => ∃ (x p q : Addr), vs = [.ref x, .ref p, .ref q] ∧ CmF K ∧ ((∃ (H0 : Hp) (dx : Addr) (n : Int) (pf : Int → Bool) (M : List Slf) (S : List Int), H0 x = none ∧ H0 dx = none ∧ Same H0 H ∧ H x = some (.ins (He.ga K "Column") dx []) ∧ H dx = some (.own x) ∧ dx ≠ x ∧
  Bs K H0 p n pf S ∧ SqA K H0 q (M.map vF) ∧ Bss K H0 n S M ∧ M.length ≤ 1000 ∧ Kn S ∧ 0 ≤ n ∧ (M ≠ [] → ∀ H', Same H0 H' → Cm K H' x n (colF pf M) S → Q .non H') ∧ (M = [] → XF K "BadColumn" → E (.ref (He.ga K "BadColumn")) none H)) ∨
  ∃ (n : Int) (ep : List Int) (Z : List (Addr × Int × List Int)), Bm K H p n ep ∧ SqA K H q (Z.map fun t => V.ref t.1) ∧ (∀ t ∈ Z, Bm K H t.1 t.2.1 t.2.2) ∧ (∃ t ∈ Z, t.2.1 ≠ n) ∧ (XF K "SizesDiffer" → E (.ref (He.ga K "SizesDiffer")) none H))
theorem same_o {x dx : Addr} {H0 H H' : Hp} (e : Same H0 H) (h1 : H0 x = none) (h2 : H0 dx = none) (o : SameO x dx H H') : Same H0 H' := fun b u h => o b u (e b u h) (ne_of_none h h1) (ne_of_none h h2)
theorem paired_slfG {α : Type} {K : Frag} {H : Hp} {n : Int} {S : List Int} {G : Addr → Prop} {F : α → Int → Bool} : ∀ {as : List α} {ys : List V}, Paired (fun a y => ∃ x, y = .ref x ∧ G x ∧ Bs K H x n (F a) S) as ys → ∃ P : List Slf, ys = P.map vF ∧ P.map (·.2) = as.map F ∧ Bss K H n S P ∧ ∀ t ∈ P, G t.1
  | _, _, .nil => ⟨[], rfl, rfl, (fun _ z => nomatch z), fun _ z => nomatch z⟩
  | _, _, .cons (a := a) ⟨x, e, hg, hb⟩ h => by
    obtain ⟨P, h1, h2, h3, h4⟩ := paired_slfG h
    refine ⟨(x, F a) :: P, by rw [e, h1]; rfl, by rw [List.map_cons, List.map_cons, h2], fun t ht => ?_, fun t ht => ?_⟩
    · rcases List.mem_cons.mp ht with rfl | ht
      · exact hb
      · exact h3 t ht
    · rcases List.mem_cons.mp ht with rfl | ht
      · exact hg
      · exact h4 t ht
/-- a later store of a slot changes the object alone -/
theorem slH_x {H : Hp} {x C dx : Addr} {vs ws : List (Option V)} (h : SlX.Slt H x C dx vs) (ne : vs ≠ []) : SameX x H (SlX.slH H x C dx ws) := fun b o hb hn => by
  rcases h with ⟨_, z⟩ | ⟨_, z⟩
  · exact absurd z ne
  · by_cases hd : b = dx
    · subst hd
      rw [hb] at z
      cases z
      unfold SlX.slH
      rw [upd_ne hn, upd_same]
    · rw [SlX.slH_ne hn hd]; exact hb
theorem Bm.slx {K : Frag} {H H' : Hp} {a x C dx : Addr} {n : Int} {es : List Int} {vs : List (Option V)} (h : Bm K H a n es) (hx : SlX.Slt H x C dx vs) (ne : vs ≠ []) (hax : a ≠ x) (e : SameX x H H') : Bm K H' a n es := by
  obtain ⟨c, h0, hE, da, p, h1, h2⟩ := h
  have hx2 : H x = some (SlX.SlO x C dx vs) := by
    rcases hx with ⟨_, z⟩ | ⟨z, _⟩
    · exact absurd z ne
    · exact z
  refine ⟨c, h0, hE, da, p, ?_, ?_⟩
  · rcases h1 with ⟨_, z⟩ | ⟨h1, z⟩
    · cases z
    · exact .inr ⟨e _ _ h1 hax, e _ _ z (ne_of z hx2 (fun q => by unfold SlX.SlO at q; cases q))⟩
  · rcases h2 with (h2 | ⟨o, h2⟩) | h2
    · exact .inl (.inl (e _ _ h2 (ne_of h2 hx2 (fun q => slO_tup q.symm))))
    · exact .inl (.inr ⟨o, e _ _ h2 (ne_of h2 hx2 (fun q => slO_frz q.symm))⟩)
    · exact .inr h2
theorem pure_Columndd_initdd {K : Frag} (vs : List V) (H : Hp) (Q : VK) (E : XK) (h : sp_Columndd_initdd K vs H Q E) : t_Columndd_initdd K E { nx := fun _ H' => Q .non H', rt := Q } (start ["self", "presence", "slices", "bitmap"] vs) H := by
  obtain ⟨x, p, q, rfl, cf, ⟨H0, dx, n, pf, M, S, nx, ndx, e0, hx, hdx, hne, hp0, hq0, hM0, lM, kn, n0, good, bad⟩ | ⟨n, ep, Z, hp, hq, hZ, ⟨t0, ht0, hn0⟩, bad⟩⟩ := h
  case inr =>
    obtain ⟨cb, _, _, dxp, up, slp, hup⟩ := id hp
    walk_at "gx"
    rw [List.length_map]
    refine ifd (fun h => ?_) (fun h => ?_)
    · have h : (Z.length : Int) = 0 := h
      have hZ0 : Z = [] := List.eq_nil_of_length_eq_zero (by omega)
      rw [hZ0] at ht0
      exact nomatch ht0
    walk_at "gx"
    refine for_seq (fun i σ H1 => H1 = H ∧ ∃ k : Option V, σ = [some (.ref x), some (.ref p), some (.ref q), k] ∧ ∀ t ∈ Z.take i, t.2.1 = n) hq ⟨rfl, none, rfl, fun _ z => by simp at z⟩ (fun i σ H' _ z => by rw [z.1]; exact Same.stay (Same.refl _)) ?_ ?_
    · rintro i v σ H1 hi ⟨rfl, k, rfl, hall⟩
      rw [List.getElem?_map] at hi
      cases hj : Z[i]? with
      | none => rw [hj] at hi; cases hi
      | some t =>
      rw [hj] at hi
      cases hi
      obtain ⟨_, _, _, dxt, ut, slt, hut⟩ := hZ t (List.mem_of_getElem? hj)
      walk_at "gx"
      refine Atr.sl cb slt (i := 1) rfl rfl ?_
      walk_at "gx"
      refine Atr.sl cb slp (i := 1) rfl rfl ?_
      refine ifn (fun h2 => ?_) (fun h2 => ?_)
      · exact fun xf => bad xf
      · have h2 : t.2.1 = n := h2
        refine ⟨rfl, _, rfl, fun u hu => ?_⟩
        rw [List.take_succ, hj] at hu
        rcases List.mem_append.mp hu with hu | hu
        · exact hall u hu
        · rw [List.mem_singleton.mp hu]; exact h2
    · rintro σ H1 ⟨rfl, k, rfl, hall⟩
      rw [List.length_map, List.take_length] at hall
      exact absurd (hall t0 ht0) hn0
  have hq := Same.sqa e0 hq0
  have hp := hp0.same e0
  have hM := hM0.same e0
  obtain ⟨esp, ⟨cb, _, _, dxp, up, slp, hup⟩, _⟩ := id hp
  walk_at "gx"
  rw [List.length_map]
  refine ifd (fun h => ?_) (fun h => ?_)
  · have hM : M = [] := List.eq_nil_of_length_eq_zero (by omega)
    exact fun xf => bad hM xf
  have neM : M ≠ [] := fun z => h (by rw [z]; rfl)
  walk_at "gx"
  refine for_seq (fun i σ H1 => H1 = H ∧ ∃ k : Option V, σ = [some (.ref x), some (.ref p), some (.ref q), k]) hq ⟨rfl, none, rfl⟩ (fun i σ H' _ z => by rw [z.1]; exact Same.stay (Same.refl _)) ?_ ?_
  · rintro i v σ H1 hi ⟨rfl, k, rfl⟩
    obtain ⟨t, ht, rfl⟩ := map_get hi
    obtain ⟨es, ⟨_, _, _, dxt, ut, slt, hut⟩, _⟩ := hM t (List.mem_of_getElem? ht)
    walk_at "gx"
    refine Atr.sl cb slt (i := 1) rfl rfl ?_
    walk_at "gx"
    refine Atr.sl cb slp (i := 1) rfl rfl ?_
    refine ifnf rfl ?_
    exact ⟨rfl, _, rfl⟩
  rintro σ H1 ⟨rfl, k, rfl⟩
  walk_at "gx"
  refine Atr.sl cb slp (i := 1) rfl rfl ?_
  walk_at "gx"
  have s0 : SlX.Slt H1 x (He.ga K "Column") dx [] := .inl ⟨hx, rfl⟩
  refine Sto.sl cf s0 (i := 1) rfl ?_
  have e1 : Same H0 (SlX.slH H1 x (He.ga K "Column") dx (SlX.putS 1 (.int n) [])) := same_o e0 nx ndx SameO.slH
  have s1 : SlX.Slt (SlX.slH H1 x (He.ga K "Column") dx (SlX.putS 1 (.int n) [])) x (He.ga K "Column") dx [none, some (.int n)] := SlX.slH_slt hne
  refine ⟨?_⟩
  generalize SlX.slH H1 x (He.ga K "Column") dx (SlX.putS 1 (.int n) []) = H2 at *
  walk_at "gx"
  refine Sto.sl cf s1 (i := 0) rfl ?_
  have e2 : Same H0 (SlX.slH H2 x (He.ga K "Column") dx (SlX.putS 0 (.ref p) [none, some (.int n)])) := same_o e1 nx ndx SameO.slH
  have s2 : SlX.Slt (SlX.slH H2 x (He.ga K "Column") dx (SlX.putS 0 (.ref p) [none, some (.int n)])) x (He.ga K "Column") dx [some (.ref p), some (.int n)] := SlX.slH_slt hne
  refine ⟨?_⟩
  generalize SlX.slH H2 x (He.ga K "Column") dx (SlX.putS 0 (.ref p) [none, some (.int n)]) = H3 at *
  have hq3 := Same.sqa e2 hq0
  walk_at "gx"
  have hp3 := hp0.same e2
  have hM3 := hM0.same e2
  have hx3 : ∃ o, H3 x = some o := by
    rcases s2 with ⟨h, _⟩ | ⟨h, _⟩ <;> exact ⟨_, h⟩
  obtain ⟨ox3, hx3⟩ := hx3
  refine lc_dat M vF (fun D t z H => ∃ y, z = .ref y ∧ y ≠ x ∧ Bs K H y n (fun row => rAnd (t.2 row) (pf row)) S) hq3 (by rw [sizeLine_eq]; omega) ?_ ?_ ?_
  · rintro D t z H5 H6 l hD ⟨y, rfl, hyx, hb⟩ e
    exact ⟨y, rfl, hyx, hb.x e hD⟩
  · intro D l j t H5 A nD hD hj e5 hA
    refine ⟨rfl, ?_⟩
    walk_at "gx"
    exact bs_and kn ((hM3 t (List.mem_of_getElem? hj)).same e5) (hp3.same e5) fun z H6 e6 nz bz => hA _ _ e6 ⟨z, rfl, (ne_of_none (e5 _ _ hx3) nz).symm, bz⟩
  intro D ys H5 nD hD hP e5
  obtain ⟨P, rfl, eP, bP, xP⟩ := paired_slfG (G := fun y => y ≠ x) (F := fun (t : Slf) row => rAnd (t.2 row) (pf row)) hP
  have lP : P.length = M.length := by have := congrArg List.length eP; simpa using this
  have valP : ∀ row, twos (bitsF P row) = if pf row = true then twos (bitsF M row) else 0 := fun row => by
    have e6 : bitsF P row = (bitsF M row).map fun b => rAnd b (pf row) := by
      have h7 : bitsF P row = (P.map (·.2)).map fun f => f row := by unfold bitsF; rw [List.map_map]; rfl
      rw [h7, eP, List.map_map]
      unfold bitsF
      rw [List.map_map]; rfl
    rw [e6, twos_and]
  obtain ⟨T, h1, h2, h3, h4, h5⟩ := bP.sli
  rw [h1] at hD
  have neT : T ≠ [] := fun z => neM (List.eq_nil_of_length_eq_zero (by rw [← lP, ← h2, z]; rfl))
  walk_at "gx"
  refine ⟨D, n, T, rfl, .inl (SqL.of hD), neT, h3, by omega, fun d T' H6 nd e6 hd hT' => ?_⟩
  obtain ⟨rest, hrest⟩ := hT'.pre
  have sub : ∀ t ∈ T', t ∈ T := fun t ht => by rw [hrest]; exact List.mem_append.mpr (.inl ht)
  have lT' : T'.length ≤ T.length := by rw [hrest, List.length_append]; omega
  walk_at "gx"
  refine ⟨fun u H7 e7 hu => ?_⟩
  have e37 := (e5.trans e6).trans e7
  have s27 := Same.slt e37 s2
  have e27 := e2.trans e37
  walk_at "gx"
  refine Sto.sl cf s27 (i := 2) rfl ?_
  have e8 : Same H0 (SlX.slH H7 x (He.ga K "Column") dx (SlX.putS 2 (.ref u) [some (.ref p), some (.int n)])) := same_o e27 nx ndx SameO.slH
  have s3 : SlX.Slt (SlX.slH H7 x (He.ga K "Column") dx (SlX.putS 2 (.ref u) [some (.ref p), some (.int n)])) x (He.ga K "Column") dx [some (.ref p), some (.int n), some (.ref u)] := SlX.slH_slt hne
  have hy7 : ∀ o, H7 dx = some o → (∀ ys, o ≠ .tup ys) ∧ ∀ u w, o ≠ .frz u w := fun o ho => by
    refine ⟨fun ys z => ?_, fun u w z => ?_⟩
    · subst z
      rcases s27 with ⟨_, q⟩ | ⟨_, q⟩
      · cases q
      · rw [ho] at q; cases q
    · subst z
      rcases s27 with ⟨_, q⟩ | ⟨_, q⟩
      · cases q
      · rw [ho] at q; cases q
  have hu8 := SameO.slH.tup (vs := [some (.ref p), some (.int n)]) (H' := SlX.slH H7 x (He.ga K "Column") dx (SlX.putS 2 (.ref u) [some (.ref p), some (.int n)])) s27 hy7 hu
  have x78 := slH_x (ws := SlX.putS 2 (.ref u) [some (.ref p), some (.int n)]) s27 (by simp)
  refine ⟨?_⟩
  generalize SlX.slH H7 x (He.ga K "Column") dx (SlX.putS 2 (.ref u) [some (.ref p), some (.int n)]) = H8 at *
  walk_at "gx"
  refine Atr.sl cf s3 (i := 2) rfl rfl ?_
  walk_at "gx"
  refine Sto.sl cf s3 (i := 3) rfl ?_
  have hy8 : ∀ o, H8 dx = some o → (∀ ys, o ≠ .tup ys) ∧ ∀ u w, o ≠ .frz u w := fun o ho => by
    refine ⟨fun ys z => ?_, fun u w z => ?_⟩
    · subst z
      rcases s3 with ⟨_, q⟩ | ⟨_, q⟩
      · cases q
      · rw [ho] at q; cases q
    · subst z
      rcases s3 with ⟨_, q⟩ | ⟨_, q⟩
      · cases q
      · rw [ho] at q; cases q
  have e9 := same_o e8 nx ndx (SameO.slH (H := H8) (vs := SlX.putS 3 (.int ((T'.map vB).length : Int)) [some (.ref p), some (.int n), some (.ref u)]) (C := He.ga K "Column"))
  have hu9 := SameO.slH.tup (H' := SlX.slH H8 x (He.ga K "Column") dx (SlX.putS 3 (.int ((T'.map vB).length : Int)) [some (.ref p), some (.int n), some (.ref u)])) s3 hy8 hu8
  have hnum : ∀ row, 0 ≤ row → row < n → twos (bitsF (T'.map fun t => (t.1, inB t.2)) row) = (colF pf M row).getD 0 := fun row r0 r1 => by
    rw [bitsF_sli]
    show numL (T'.map (·.2)) row = _
    rw [hT'.num row]
    have e10 : numL (T.map (·.2)) row = twos (bitsF P row) := by unfold numL; rw [List.map_map, ← h5 row r0 r1]; rfl
    rw [e10, valP row]
    unfold colF
    by_cases hh : pf row = true
    · rw [if_pos hh, if_pos hh]; rfl
    · rw [if_neg hh, if_neg hh]; rfl
  have hB7 : Bms K H7 n T' := fun t ht => ((h3 t (sub t ht)).same e6).same e7
  have epf : (fun r => (colF pf M r).isSome) = pf := by
    funext r
    unfold colF
    by_cases hh : pf r = true
    · rw [if_pos hh, hh]; rfl
    · rw [if_neg hh]
      cases h : pf r
      · rfl
      · exact absurd h hh
  have xT : ∀ t ∈ T, t.1 ≠ x := fun t ht => by
    have hm : vB t ∈ P.map vF := by rw [h1]; exact List.mem_map.mpr ⟨t, ht, rfl⟩
    obtain ⟨v, hv, he⟩ := List.mem_map.mp hm
    have := xP v hv
    have e12 : v.1 = t.1 := V.ref.inj he
    rw [← e12]; exact this
  refine good neM _ e9 ⟨cf, n0, kn, dx, p, u, T'.map fun t => (t.1, inB t.2), ?_, ?_, ?_, ?_, ?_, ?_, hnum, ?_⟩
  · have e11 : ((T'.map fun t => ((t.1, inB t.2) : Slf)).length : Int) = ((T'.map vB).length : Int) := by rw [List.length_map, List.length_map]
    rw [e11]
    exact SlX.slH_slt hne
  · rw [epf]; exact hp0.same e9
  · rw [vF_sli]; exact hu9
  · refine Bms.bss (fun t ht => ?_) fun t ht => h4 t (sub t ht)
    exact ((hB7 t ht).slx s27 (by simp) (xT t (sub t ht)) x78).slx s3 (by simp) (xT t (sub t ht)) (slH_x s3 (by simp))
  · simpa using hT'.ne
  · rw [List.length_map]; omega
  · intro hl
    rw [List.length_map] at hl
    obtain ⟨z, z0, z1, hw⟩ := narrow_row hT' (fun t ht => (h3 t (sub t ht)).2.2.1) hl
    refine ⟨z, z0, z1, ?_⟩
    rw [← hnum z z0 z1, bitsF_sli, List.length_map]
    exact hw
/-- a column is made -/
theorem mk_column {K : Frag} {H : Hp} {p q : Addr} {n : Int} {pf : Int → Bool} {M : List Slf} {S : List Int} {R : Addr → Hp → Prop} {E : XK} (cf : CmF K) (hp : Bs K H p n pf S) (hq : SqA K H q (M.map vF)) (hM : Bss K H n S M) (lM : M.length ≤ 1000) (kn : Kn S) (n0 : 0 ≤ n)
    (good : M ≠ [] → ∀ x H', Same H H' → H x = none → Cm K H' x n (colF pf M) S → R x H') (bad : M = [] → XF K "BadColumn" → ∀ H', Same H H' → E (.ref (He.ga K "BadColumn")) none H') :
    NewI K H "Column" fun x H2 => sp_Columndd_initdd K [.ref x, .ref p, .ref q] H2 (fun v H3 => v = .non ∧ R x H3) E := by
  refine ⟨fun x dx h1 h2 hne => ?_⟩
  have e : Same H (upd (upd H dx (.own x)) x (.ins (He.ga K "Column") dx [])) := fun b o h => by
    rw [upd_ne (ne_of_none h h1), upd_ne (ne_of_none h h2)]; exact h
  exact ⟨x, p, q, rfl, cf, .inl ⟨H, dx, n, pf, M, S, h1, h2, e, upd_same, by rw [upd_ne hne, upd_same], hne, hp, hq, hM, lM, kn, n0, fun ne H' e' hc => ⟨rfl, good ne x H' e' h1 hc⟩, fun em xf => bad em xf _ e⟩⟩
end S
namespace S
open PySem PySem.Spec PyProof.Rows L2
end S
-- fn: Bitmap.__contains__
-- law: k01
-- deps: Bm _law_in
namespace S
open PySem PySem.Spec PyProof.Rows L2
end S
namespace S
open PySem PySem.Spec PyProof.Rows L2
end S
namespace S
open PySem PySem.Spec PyProof.Rows L2
end S
namespace S
open PySem PySem.Spec PyProof.Rows L2
def t_weight_of_1 (K : Frag) (E : XK) : TS :=
    tRet (tOp oShl (tC (.int 1)) (dVar 0))
def t_weight_of (K : Frag) (E : XK) : TS :=
    tSeq (dIfS (dCmpT (oEq K) (dVar 0) (tOp oSub (dVar 1) (tC (.int 1)))) (tRet (tUn uNeg (tOp oShl (tC (.int 1)) (dVar 0)))) (tNext))
    (stop (t_weight_of_1 K E))
end S
-- fn: width_for bit_of weight_of
-- law: k15
-- deps: Tw Bitmap_contains
namespace S
open PySem PySem.Spec PyProof.Rows L2
def vO (v : Option Int) : V := match v with
  | none => .non
  | some i => .int i
def widO (v : Option Int) : Nat := match v with
  | none => 1
  | some i => widI i
def sp_weight_of (K : Frag) : Sp := fun vs H Q _ => ∃ (p w : Nat), vs = [.int (p : Int), .int (w : Int)] ∧ p ≤ 1000 ∧ Q (.int (if p + 1 = w then -(2 ^ p : Int) else 2 ^ p)) H
theorem pure_weight_of {K : Frag} (vs : List V) (H : Hp) (Q : VK) (E : XK) (h : sp_weight_of K vs H Q E) : t_weight_of K E { nx := fun _ H' => Q .non H', rt := Q } (start ["place", "width"] vs) H := by
  obtain ⟨p, w, rfl, hp, q⟩ := h
  walk_at "gx"
  refine ifd (fun h => ?_) (fun h => ?_)
  · have h : (p : Int) = (w : Int) - 1 := h
    rw [if_pos (by omega)] at q
    walk_at "gx"
    have e : -((1 : Int) * 2 ^ ((p : Int)).toNat) = -(2 ^ p) := by rw [Int.one_mul, Int.toNat_natCast]
    exact Eq.mp (congrArg (fun z => Q (V.int z) H) e.symm) q
  · have h : ¬ (p : Int) = (w : Int) - 1 := h
    rw [if_neg (by omega)] at q
    walk_at "gx"
    have e : ((1 : Int) * 2 ^ ((p : Int)).toNat) = 2 ^ p := by rw [Int.one_mul, Int.toNat_natCast]
    exact Eq.mp (congrArg (fun z => Q (V.int z) H) e.symm) q
end S
namespace S
open PySem PySem.Spec PyProof.Rows L2
def t__law_rows_of_b2 (K : Frag) (E : XK) : TS :=
    dIfS (dCmpT (oNin K) (dVar 4) (dVar 2)) (tDrop (dML K mApp (dVar 2) (tCons (dVar 4) (tNil)))) (tNext)
def t__law_rows_of_b1 (K : Frag) (E : XK) : TS :=
    dFor (iSeq K (dVar 3)) (gName 4) (t__law_rows_of_b2 K E)
def t__law_rows_of_3 (K : Frag) (E : XK) : TS :=
    tRet (dVar 2)
def t__law_rows_of_2 (K : Frag) (E : XK) : TS :=
    tSeq (dFor (iSeq K (dVar 1)) (gName 3) (t__law_rows_of_b1 K E))
    (stop (t__law_rows_of_3 K E))
def t__law_rows_of_1 (K : Frag) (E : XK) : TS :=
    tSeq (dIfS (dCmpT oGt (dVar 0) (tC (.int 0))) (tAsg (dLst (tCons (tC (.int 0)) (tNil))) (gName 2)) (tNext))
    (stop (t__law_rows_of_2 K E))
def t__law_rows_of (K : Frag) (E : XK) : TS :=
    tSeq (tAsg (dLst (tNil)) (gName 2))
    (stop (t__law_rows_of_1 K E))
end S
-- fn: _law_rows_of
-- law: k12
-- deps: Sl _law_places
namespace S
open PySem PySem.Spec PyProof.Rows L2
theorem SameX.stay {K : Frag} {st p : Addr} {H H' : Hp} {l : List V} (e : SameX st H H') (n : p ≠ st) (hst : H st = some (.lst l)) : Stay K p H H' := fun _ => ⟨fun h => e.seq h n, fun h => e.tup h hst⟩
/-- lists of rows within the size -/
def LssB (H : Hp) (n : Int) (most : Nat) (M : List Sli) : Prop := ∀ t ∈ M, H t.1 = some (.lst (t.2.map V.int)) ∧ (∀ z ∈ t.2, 0 ≤ z ∧ z < n) ∧ t.2.length ≤ most
theorem Lss.b {H : Hp} {n : Int} {most : Nat} {M : List Sli} (h : Lss H n most M) : LssB H n most M := fun t ht => let ⟨a, b, c⟩ := h t ht; ⟨a, b.2, c⟩
def sp__law_rows_of (K : Frag) : Sp := fun vs H Q _ => ∃ (p : Addr) (n : Int) (M : List Sli), vs = [.int n, .ref p] ∧ H p = some (.lst (M.map vB)) ∧ LssB H n 1000 M ∧ M.length ≤ 1000 ∧
  ∀ (q : Addr) (rows : List Int) (H' : Hp), H q = none → Same H H' → H' q = some (.lst (rows.map V.int)) → (∀ z ∈ rows, 0 ≤ z ∧ z < n) → (∀ t ∈ M, ∀ z ∈ t.2, z ∈ rows) → rows.length ≤ 1000001 → (0 < n → (0 : Int) ∈ rows) → (∀ m, (∀ t ∈ M, t.2.length ≤ m) → rows.length ≤ 1 + M.length * m) → Q (.ref q) H'
def lenTo (M : List Sli) (i : Nat) : Nat := ((M.take i).map fun t => t.2.length).sum
theorem lenTo_succ {M : List Sli} {i : Nat} {t : Sli} (h : M[i]? = some t) : lenTo M (i + 1) = lenTo M i + t.2.length := by
  unfold lenTo
  rw [List.take_succ, h, List.map_append, List.sum_append]
  rfl
theorem lenTo_le {m : Nat} : ∀ {M : List Sli}, (∀ t ∈ M, t.2.length ≤ m) → (M.map fun t => t.2.length).sum ≤ M.length * m
  | [], _ => by simp
  | t :: M, h => by
    have h1 := h t (List.mem_cons_self ..)
    have h2 := lenTo_le (M := M) fun x hx => h x (List.mem_cons_of_mem _ hx)
    rw [List.map_cons, List.sum_cons, List.length_cons, Nat.succ_mul]
    omega
theorem lenTo_bd {M : List Sli} {m : Nat} (h : ∀ t ∈ M, t.2.length ≤ m) (i : Nat) : lenTo M i ≤ M.length * m := by
  have h1 := lenTo_le (M := M.take i) fun t ht => h t (List.mem_of_mem_take ht)
  have h2 : (M.take i).length * m ≤ M.length * m := Nat.mul_le_mul_right _ (List.length_take_le' ..)
  exact Nat.le_trans h1 h2
def inv__rows (H0 : Hp) (n : Int) (p d : Addr) (M : List Sli) (r0 : List Int) (i : Nat) (σ : L2.St) (H1 : Hp) : Prop := ∃ (rows : List Int) (k1 k2 : Option V), σ = [some (.int n), some (.ref p), some (.ref d), k1, k2] ∧ SameX d H0 H1 ∧ H1 d = some (.lst (rows.map V.int)) ∧ (∀ z ∈ rows, 0 ≤ z ∧ z < n) ∧ (∀ j t, j < i → M[j]? = some t → ∀ z ∈ t.2, z ∈ rows) ∧ rows.length ≤ 1 + lenTo M i ∧ ∀ z ∈ r0, z ∈ rows
theorem pure__law_rows_of {K : Frag} (vs : List V) (H : Hp) (Q : VK) (E : XK) (h : sp__law_rows_of K vs H Q E) : t__law_rows_of K E { nx := fun _ H' => Q .non H', rt := Q } (start ["_law_size_here", "_law_lists", "_law_rows", "_law_ends_here", "_law_end"] vs) H := by
  obtain ⟨p, n, M, rfl, hp, hL, hM, q⟩ := h
  have main : ∀ (d : Addr) (r0 : List Int) (H0 : Hp), H d = none → Same H H0 → H0 d = some (.lst (r0.map V.int)) → (∀ z ∈ r0, 0 ≤ z ∧ z < n) → r0.length ≤ 1 → (0 < n → (0 : Int) ∈ r0) →
      t__law_rows_of_2 K E { nx := fun _ H' => Q .non H', rt := Q } [some (.int n), some (.ref p), some (.ref d), none, none] H0 := by
    intro d r0 H0 nd e0 hd hr hl h00
    have hp0 := e0 _ _ hp
    have pd : p ≠ d := ne_of_none hp nd
    walk_at "gx"
    refine for_seq (inv__rows H0 n p d M r0) (.inl (SqL.of hp0)) ⟨r0, none, none, rfl, SameX.refl _ _, hd, hr, fun j t hj => absurd hj (by omega), by omega, fun _ h => h⟩ (fun i σ H' _ z => let ⟨_, _, _, _, e, _⟩ := z; e.stay pd hd) ?_ ?_
    · rintro i v σ H1 hi ⟨rows, k1, k2, rfl, e1, hd1, hr1, ha, hl1, hz0⟩
      obtain ⟨t, ht, rfl⟩ := map_get hi
      have hm := List.mem_of_getElem? ht
      have hil : i < M.length := (List.getElem?_eq_some_iff.mp ht).1
      obtain ⟨b1, b2, b3⟩ := hL t hm
      have bd : lenTo M i ≤ 1000000 := by have := lenTo_bd (fun t ht => (hL t ht).2.2) i; have : M.length * 1000 ≤ 1000 * 1000 := Nat.mul_le_mul_right _ hM; omega
      have td : t.1 ≠ d := ne_of_none b1 nd
      have b1' := e1 _ _ (e0 _ _ b1) td
      walk_at "gx"
      refine for_seq (fun j σ H2 => ∃ (rows : List Int) (k2 : Option V), σ = [some (.int n), some (.ref p), some (.ref d), some (.ref t.1), k2] ∧ SameX d H1 H2 ∧ H2 d = some (.lst (rows.map V.int)) ∧ (∀ z ∈ rows, 0 ≤ z ∧ z < n) ∧ (∀ j t, j < i → M[j]? = some t → ∀ z ∈ t.2, z ∈ rows) ∧ (∀ z ∈ t.2.take j, z ∈ rows) ∧ rows.length ≤ 1 + lenTo M i + j ∧ ∀ z ∈ r0, z ∈ rows)
        (.inl (SqL.of b1')) ⟨rows, k2, rfl, SameX.refl _ _, hd1, hr1, ha, by simp, by omega, hz0⟩ (fun i σ H' _ z => let ⟨_, _, _, e, _⟩ := z; e.stay td hd1) ?_ ?_
      · rintro j v σ H2 hj ⟨rows, k2, rfl, e2, hd2, hr2, ha2, ha3, hl2, hz2⟩
        obtain ⟨z, hz, rfl⟩ := map_get hj
        have hjl : j < t.2.length := (List.getElem?_eq_some_iff.mp hz).1
        have hzm := List.mem_of_getElem? hz
        have tk : t.2.take (j + 1) = t.2.take j ++ [z] := by rw [List.take_succ, hz]; rfl
        walk_at "gx"
        refine ⟨⟨rfl, flat_ints _⟩, ?_⟩
        rw [inV_int]
        by_cases hin : z ∈ rows
        · rw [decide_eq_true hin]
          refine ⟨rows, _, rfl, e2, hd2, hr2, ha2, fun w hw => ?_, by omega, hz2⟩
          rw [tk] at hw
          rcases List.mem_append.mp hw with hw | hw
          · exact ha3 w hw
          · rw [List.mem_singleton.mp hw]; exact hin
        · rw [decide_eq_false hin]
          walk_at "gx"
          refine ⟨rows ++ [z], _, rfl, e2.put, by rw [upd_same, List.map_append]; rfl, fun w hw => ?_, fun j' t' h1 h2 w hw => List.mem_append.mpr (.inl (ha2 j' t' h1 h2 w hw)), fun w hw => ?_, by simp; omega, fun w hw => List.mem_append.mpr (.inl (hz2 w hw))⟩
          · rcases List.mem_append.mp hw with hw | hw
            · exact hr2 w hw
            · rw [List.mem_singleton.mp hw]; exact b2 z hzm
          · rw [tk] at hw
            rcases List.mem_append.mp hw with hw | hw
            · exact List.mem_append.mpr (.inl (ha3 w hw))
            · exact List.mem_append.mpr (.inr hw)
      · rintro σ H2 ⟨rows, k2, rfl, e2, hd2, hr2, ha2, ha3, hl2, hz2⟩
        rw [List.length_map, List.take_length] at ha3
        rw [List.length_map] at hl2
        refine ⟨rows, _, k2, rfl, e1.trans e2, hd2, hr2, fun j t' h1 h2 z hz => ?_, by rw [lenTo_succ ht]; omega, hz2⟩
        by_cases hji : j = i
        · subst hji
          rw [ht] at h2
          cases h2
          exact ha3 z hz
        · exact ha2 j t' (by omega) h2 z hz
    · rintro σ H1 ⟨rows, k1, k2, rfl, e1, hd1, hr1, ha, hl1, hz1⟩
      rw [List.length_map] at ha
      have gl : ∀ m, (∀ t ∈ M, t.2.length ≤ m) → rows.length ≤ 1 + M.length * m := fun m hm => by
        have := lenTo_le hm
        rw [List.length_map] at hl1
        unfold lenTo at hl1
        rw [List.take_length] at hl1
        omega
      refine ⟨q d rows H1 nd (SameX.same e0 e1 nd) hd1 hr1 (fun t ht z hz => ?_) (by have := gl 1000 (fun t ht => (hL t ht).2.2); have : M.length * 1000 ≤ 1000 * 1000 := Nat.mul_le_mul_right _ hM; omega) (fun h => hz1 0 (h00 h)) gl⟩
      obtain ⟨j, hj⟩ := List.getElem?_of_mem ht
      exact ha j t (List.getElem?_eq_some_iff.mp hj).1 hj z hz
  walk_at "gx"
  refine ⟨fun d nd => ?_⟩
  have e0 := same_new (o := .lst []) nd
  walk_at "gx"
  refine ifd (fun h0 => ?_) (fun h0 => ?_)
  · walk_at "gx"
    refine ⟨fun d2 nd2 => ?_⟩
    exact ⟨main d2 [0] _ (same_none e0 nd2) (e0.trans (same_new nd2)) upd_same (fun z hz => by rw [List.mem_singleton.mp hz]; exact ⟨Int.le_refl _, h0⟩) (by simp) (fun _ => List.mem_singleton.mpr rfl)⟩
  · exact ⟨main d [] _ nd e0 upd_same (fun _ z => nomatch z) (by simp) (fun z => absurd z h0)⟩
end S
namespace S
open PySem PySem.Spec PyProof.Rows L2
end S
-- fn: bitmap_of
-- law: k15
-- deps: width_for Lc Bitmap_init _law_places _law_rows_of
namespace S
open PySem PySem.Spec PyProof.Rows L2
theorem paired_get {α β : Type} {R : α → β → Prop} : ∀ {as : List α} {bs : List β} {i : Nat} {b : β}, Paired R as bs → bs[i]? = some b → ∃ a, as[i]? = some a ∧ R a b
  | _, _, 0, b, .cons r _, h => by
    have e := Option.some.inj h
    subst e
    exact ⟨_, rfl, r⟩
  | _, _, i + 1, b, .cons _ h2, h => by
    obtain ⟨a, e, r⟩ := paired_get (i := i) h2 (by simpa using h)
    exact ⟨a, by simpa using e, r⟩
def total {α : Type} : List (Int × α) → Int
  | [] => 0
  | (l, _) :: r => l + total r
def sums {α : Type} : Int → List (Int × α) → List Int
  | _, [] => []
  | a, (l, _) :: r => a :: sums (a + l) r
end S
namespace S
open PySem PySem.Spec PyProof.Rows L2
end S
-- fn: Column.of_runs
-- law: k15
-- deps: Column_init bitmap_of width_for
namespace S
open PySem PySem.Spec PyProof.Rows L2
/-- [e for x, y in xs]: of pairs known ahead -/
theorem lc_tup {α : Type} {K : Frag} {p : Addr} {i k : Nat} {te : TE} {vs : List Nat} {σ : L2.St} {H1 : Hp} {Q : VK} {ys : List V} (as : List α) (f1 f2 : α → V) (R : Addr → α → V → Hp → Prop) (hx : SqA K H1 p ys) (hP : Paired (fun r y => ∃ a, y = .ref a ∧ SqT K H1 a [f1 r, f2 r]) as ys) (hz : as.length < sizeLine)
    (mono : ∀ D a y H H' l, H D = some (.lst l) → R D a y H → SameX D H H' → R D a y H')
    (hs : ∀ (D : Addr) (l : List V) (j : Nat) (a : α) (H : Hp) (A : V → Hp → Prop), H1 D = none → H D = some (.lst l) → as[j]? = some a → Same H1 H → (∀ y H', Same H H' → R D a y H' → A y H') → wipe (((wipe σ vs).set i (some (f1 a))).set k (some (f2 a))) vs = wipe σ vs ∧ te (((wipe σ vs).set i (some (f1 a))).set k (some (f2 a))) H A)
    (hd : ∀ D zs H', H1 D = none → H' D = some (.lst zs) → Paired (fun a y => R D a y H') as zs → Same H1 H' → Q (.ref D) H') :
    Walk K H1 p (Wr (LcGo (gTup K 2 (gCons (gName i) (gCons (gName k) gNil))) tYes te vs σ Q)) := by
  have hlen0 := Paired.length hP
  refine lc_seq hx fun D hD => ⟨fun j H => ∃ zs, H D = some (.lst zs) ∧ Paired (fun a y => R D a y H) (as.take j) zs ∧ Same H1 H, ⟨[], upd_same, .nil, same_new hD⟩, fun i H _ ⟨_, _, _, e⟩ ys => ⟨e.seq, Same.tup e⟩, ?_, fun H ⟨ys, h1, h2, e⟩ => hd D ys H hD h1 (by rw [← hlen0, List.take_length] at h2; exact h2) e⟩
  rintro j x H hi ⟨zs, h1, h2, e⟩
  obtain ⟨a, hj, ad, rfl, hT⟩ := paired_get hP hi
  have hil : j < as.length := (List.getElem?_eq_some_iff.mp hj).1
  have hlen : zs.length ≤ j := by
    rw [← h2.length, List.length_take]; exact Nat.min_le_left _ _
  obtain ⟨w, q⟩ := hs D zs j a H (fun y H4 => ∃ acc, H4 D = some (.lst acc) ∧ acc.length < sizeLine ∧ ∃ ys, upd H4 D (.lst (acc ++ [y])) D = some (.lst ys) ∧ Paired (fun a y' => R D a y' (upd H4 D (.lst (acc ++ [y])))) (as.take (j + 1)) ys ∧ Same H1 (upd H4 D (.lst (acc ++ [y])))) hD h1 hj e fun y H' e2 r => by
    have si : SameX D H' (L2.upd H' D (.lst (zs ++ [y]))) := SameX.upd
    refine ⟨zs, e2 _ _ h1, by omega, zs ++ [y], upd_same, ?_, fun b o hb => ?_⟩
    · rw [List.take_succ, hj]
      exact Paired.snoc (Paired.mapP h2 fun a b r => mono _ _ _ _ _ _ h1 r (Same.thenX e2 si)) (mono _ _ _ _ _ _ (e2 _ _ h1) r si)
    · rw [upd_ne (ne_of_none hb hD)]
      exact e2 _ _ (e _ _ hb)
  refine ⟨ad, [f1 a, f2 a], rfl, Same.tup e hT, rfl, _, _, rfl, _, _, rfl, rfl, w, ?_⟩
  unfold tYes
  dsimp only
  rw [if_pos rfl]
  exact q
/-- runs on the heap -/
def Runs (K : Frag) (H : Hp) (ys : List V) (R : List (Int × Option Int)) : Prop := Paired (fun r y => ∃ a, y = .ref a ∧ SqT K H a [.int r.1, vO r.2]) R ys
theorem Runs.same {K : Frag} {H H' : Hp} {ys : List V} {R : List (Int × Option Int)} (h : Runs K H ys R) (e : Same H H') : Runs K H' ys R := Paired.mapP h fun _ _ ⟨a, h1, h2⟩ => ⟨a, h1, Same.tup e h2⟩
end S
namespace S
open PySem PySem.Spec PyProof.Rows L2
end S
-- fn: Column.of_values
-- law: k15
-- deps: Column_of_runs
namespace S
open PySem PySem.Spec PyProof.Rows L2
def ones (L : List (Option Int)) : List (Int × Option Int) := L.map fun v => (1, v)
end S
namespace S
open PySem PySem.Spec PyProof.Rows L2
end S
-- fn: _law_number
-- law: k15
-- deps: D0 D1 _law_draw _law_wide
namespace S
open PySem PySem.Spec PyProof.Rows L2
end S
namespace S
open PySem PySem.Spec PyProof.Rows L2
end S
-- fn: _law_value
-- law: k15
-- deps: _law_number width_for Tw Column_of_runs
namespace S
open PySem PySem.Spec PyProof.Rows L2
end S
-- deps: D0 D1
namespace S
open PySem PySem.Spec PyProof.Rows L2
theorem dp_bls {K : Frag} {H : Hp} : ∀ ns : List Bool, DpAll K H (ns.map V.bl) (ns.map PyData.bool)
  | [] => .nil
  | n :: r => .cons (.bl n) (dp_bls r)
theorem can_bls : ∀ ns : List Bool, PyData.canLayAll0 (ns.map PyData.bool) = true
  | [] => rfl
  | n :: r => by
    show (PyData.canLay0 (.bool n) && PyData.canLayAll0 (r.map PyData.bool)) = true
    rw [can_bls r]; rfl
theorem dep_bls : ∀ ns : List Bool, PyData.depthAll (ns.map PyData.bool) = 0
  | [] => rfl
  | n :: r => by
    show max (PyData.depth (.bool n)) (PyData.depthAll (r.map PyData.bool)) = 0
    rw [dep_bls r]; rfl
theorem shp_bls (ns : List Bool) : SeqAt.shaped (.list (ns.map PyData.bool)) = true := by
  unfold SeqAt.shaped
  have e1 : PyData.canLay0 (.list (ns.map PyData.bool)) = true := can_bls ns
  have e2 : PyData.depth (.list (ns.map PyData.bool)) = 1 := by show PyData.depthAll _ + 1 = 1; rw [dep_bls]
  rw [e1, e2]; rfl
theorem eqv_bls : ∀ xs ys : List Bool, PyData.eqvAll (xs.map PyData.bool) (ys.map PyData.bool) = decide (xs = ys)
  | [], [] => rfl
  | [], _ :: _ => by simp [PyData.eqvAll]
  | _ :: _, [] => by simp [PyData.eqvAll]
  | x :: xs, y :: ys => by
    show (PyData.eqv (.bool x) (.bool y) && PyData.eqvAll (xs.map PyData.bool) (ys.map PyData.bool)) = _
    rw [eqv_bls xs ys]
    have e : PyData.eqv (.bool x) (.bool y) = decide (x = y) := by cases x <;> cases y <;> rfl
    rw [e]
    by_cases h : x = y <;> by_cases h2 : xs = ys <;> simp [h, h2]
theorem eqd_bb {K : Frag} {H : Hp} {a b : Addr} {xs ys : List Bool} {k : Bool → Prop} (h : SqL K H a (xs.map V.bl)) (h2 : SqL K H b (ys.map V.bl)) (q : k (decide (xs = ys))) : EqD K H (.ref a) (.ref b) k :=
  ⟨_, _, .lst h (dp_bls xs), .lst h2 (dp_bls ys), shp_bls xs, shp_bls ys, by
    have e : PyData.eqv (.list (xs.map PyData.bool)) (.list (ys.map PyData.bool)) = decide (xs = ys) := eqv_bls xs ys
    rw [e]; exact q⟩
end S
namespace S
open PySem PySem.Spec PyProof.Rows L2
end S
namespace S
open PySem PySem.Spec PyProof.Rows L2
end S
-- fn: number_at Column.slice_at
-- law: k15
-- enA: yes
-- in: Bitmap
-- deps: Column_init width_for Bitmap_contains
namespace S
open PySem PySem.Spec PyProof.Rows L2
theorem bitsF_lenA (M : List Slf) (row : Int) : (bitsF M row).length = M.length := by unfold bitsF; rw [List.length_map]
theorem bitsF_neA {M : List Slf} (h : M ≠ []) (row : Int) : bitsF M row ≠ [] := by unfold bitsF; simpa using h
end S
-- law: k15
-- deps: Column_of_values _law_value D0 D1 eqd_bb Column_at
namespace S
open PySem PySem.Spec PyProof.Rows L2
theorem Cm.x {K : Frag} {H H' : Hp} {a st : Addr} {n : Int} {vf : Int → Option Int} {S : List Int} {l : List V} (h : Cm K H a n vf S) (e : SameX st H H') (hst : H st = some (.lst l)) : Cm K H' a n vf S := by
  obtain ⟨c, n0, kn, dx, p, q, M, h1, h2, h3, h4, h5, h6, h7, h8⟩ := h
  exact ⟨c, n0, kn, dx, p, q, M, e.slt hst h1, h2.x e hst, e.tup h3 hst, h4.x e hst, h5, h6, h7, h8⟩
theorem isi_cm {K : Frag} {H : Hp} {a dx : Addr} {vs : List (Option V)} {k : Bool → Prop} (c : CmF K) (hs : SlX.Slt H a (He.ga K "Column") dx vs) (q : k true) : Isi K H (.ref a) (.ref (He.ga K "Column")) k :=
  ⟨.inr ⟨a, _, dx, _, true, rfl, hs, c.sc, c.si, by rw [mf_kit c.mf c.mf]; rfl, q⟩⟩
/-! lists of numbers, None for none -/
/-! ### a column's width is the widest of its rows' -/
theorem Wd.wid {len : Nat} {v : Int} (hl : 1 < len) (h : Wd len v) : len ≤ widI v := by
  by_cases hc : len ≤ widI v
  · exact hc
  · obtain ⟨a, b⟩ := widI_fit v
    have := pow_up (p := widI v - 1) (q := len - 2) (by omega)
    unfold Wd at h
    omega
end S
-- deps: Column_of_runs Column_at Cx
/-! ## comparing bit by bit, from the top -/
namespace S
open PySem PySem.Spec PyProof.Rows L2
def cmpO (r : Int → Int → Bool) (v w : Option Int) : Bool := match v, w with
  | some a, some b => r a b
  | _, _ => false
def eqO (p : Nat) : Option Int → Option Int → Bool := cmpO fun a b => decide (a / 2 ^ p = b / 2 ^ p)
section
variable {K : Frag} {H : Hp} {x y : Addr} {n : Int} {f g : Int → Bool} {S : List Int} {Q : VK} {E : XK}
theorem Bs.mono {S' : List Int} (h : Bs K H x n f S) (hs : ∀ z ∈ S, z ∈ S') : Bs K H x n f S' := let ⟨es, a, b, c⟩ := h; ⟨es, a, fun z hz => hs z (b z hz), c⟩
theorem Cm.mono {S' : List Int} {vf : Int → Option Int} (h : Cm K H x n vf S) (kn : Kn S') (hs : ∀ z ∈ S, z ∈ S') : Cm K H x n vf S' := by
  obtain ⟨c, n0, _, dx, p, q, M, h1, h2, h3, h4, h5, h6, h7, h8⟩ := h
  exact ⟨c, n0, kn, dx, p, q, M, h1, h2.mono hs, h3, fun t ht => (h4 t ht).mono hs, h5, h6, h7, h8⟩
end
end S
-- deps: Bx Bs Cx Cmp
/-! ## sums over rows -/
namespace S
open PySem PySem.Spec PyProof.Rows L2
def sumN (f : Int → Int) : Nat → Int
  | 0 => 0
  | k + 1 => sumN f k + f k
theorem sum_congr {f g : Int → Int} : ∀ k : Nat, (∀ j : Nat, j < k → f j = g j) → sumN f k = sumN g k
  | 0, _ => rfl
  | k + 1, h => by
    show sumN f k + _ = sumN g k + _
    rw [sum_congr k fun j hj => h j (by omega), h k (by omega)]
theorem sum_add (f g : Int → Int) : ∀ k : Nat, sumN (fun r => f r + g r) k = sumN f k + sumN g k
  | 0 => rfl
  | k + 1 => by
    show sumN (fun r => f r + g r) k + (f k + g k) = (sumN f k + f k) + (sumN g k + g k)
    rw [sum_add f g k]; omega
theorem sum_mul (c : Int) (f : Int → Int) : ∀ k : Nat, sumN (fun r => c * f r) k = c * sumN f k
  | 0 => by show 0 = c * 0; rw [Int.mul_zero]
  | k + 1 => by
    show sumN (fun r => c * f r) k + c * f k = c * (sumN f k + f k)
    rw [sum_mul c f k, Int.mul_add]
theorem sum_zero : ∀ k : Nat, sumN (fun _ => 0) k = 0
  | 0 => rfl
  | k + 1 => by show sumN (fun _ => 0) k + 0 = 0; rw [sum_zero k]; rfl
theorem cnt_sum (f : Int → Bool) : ∀ k : Nat, cntF f k = sumN (fun r => if f r = true then 1 else 0) k
  | 0 => rfl
  | k + 1 => by
    show cntF f k + _ = sumN _ k + _
    rw [cnt_sum f k]
theorem cnt_bd (f : Int → Bool) : ∀ k : Nat, 0 ≤ cntF f k ∧ cntF f k ≤ k
  | 0 => ⟨Int.le_refl _, Int.le_refl _⟩
  | k + 1 => by
    have h := cnt_bd f k
    show 0 ≤ cntF f k + (if f k = true then 1 else 0) ∧ cntF f k + (if f k = true then 1 else 0) ≤ ((k + 1 : Nat) : Int)
    split <;> omega
/-- a stretch of one value -/
theorem sum_const {f : Int → Int} {c : Int} : ∀ {a b : Nat}, a ≤ b → (∀ j : Nat, a ≤ j → j < b → f j = c) → sumN f b = sumN f a + ((b : Int) - a) * c
  | a, 0, h, _ => by
    have : a = 0 := by omega
    subst this
    simp
  | a, b + 1, h, hc => by
    by_cases e : a = b + 1
    · subst e; simp
    · have ih := sum_const (f := f) (a := a) (b := b) (by omega) fun j h1 h2 => hc j h1 (by omega)
      show sumN f b + f b = _
      rw [ih, hc b (by omega) (by omega)]
      have e2 : (((b + 1 : Nat) : Int) - a) * c = ((b : Int) - a) * c + c := by
        have : ((b + 1 : Nat) : Int) - a = ((b : Int) - a) + 1 := by omega
        rw [this, Int.add_mul, Int.one_mul]
      rw [e2]; omega
/-! ### counts with weights -/
def wtP (w j : Nat) : Int := if j + 1 = w then -(2 ^ j) else 2 ^ j
def wsum (w : Nat) : Nat → List (Int → Bool) → Nat → Int
  | _, [], _ => 0
  | j, f :: r, n => wtP w j * cntF f n + wsum w (j + 1) r n
theorem wsum_sum (w : Nat) (n : Nat) : ∀ (L : List (Int → Bool)) (j : Nat), wsum w j L n = sumN (fun row => accP w j (L.map fun f => f row)) n
  | [], j => by
    show 0 = sumN (fun _ => 0) n
    rw [sum_zero]
  | f :: r, j => by
    show wtP w j * cntF f n + wsum w (j + 1) r n = sumN (fun row => (if f row = true then (if j + 1 = w then -(2 ^ j) else 2 ^ j) else 0) + accP w (j + 1) (r.map fun f => f row)) n
    rw [wsum_sum w n r (j + 1), sum_add, cnt_sum, ← sum_mul]
    congr 1
    refine sum_congr n fun i _ => ?_
    show wtP w j * (if f i = true then 1 else 0) = if f i = true then wtP w j else 0
    cases f i <;> simp
/-! ### stretches between rows -/
def strS (f : Int → Int) (n : Int) : List Int → Int
  | [] => 0
  | [r] => (n - r) * f r
  | r :: r' :: l => (r' - r) * f r + strS f n (r' :: l)
theorem const_from {α : Type} {f : Int → α} {a b : Int} (h : ∀ row, a < row → row < b → f row = f (row - 1)) : ∀ (k : Nat), a + k < b → f (a + k) = f a
  | 0, _ => by simp
  | k + 1, hk => by
    have e : a + ((k + 1 : Nat) : Int) - 1 = a + k := by omega
    rw [h _ (by omega) hk, e]
    exact const_from h k (by omega)
theorem const_from' {α : Type} {f : Int → α} {a b row : Int} (h : ∀ row, a < row → row < b → f row = f (row - 1)) (h1 : a ≤ row) (h2 : row < b) : f row = f a := by
  have z := const_from h (row - a).toNat (by omega)
  rw [show a + ((row - a).toNat : Int) = row by omega] at z
  exact z
theorem strS_sum {f : Int → Int} {n : Int} : ∀ (rs : List Int), rs.Pairwise (· ≤ ·) → (∀ z ∈ rs, 0 ≤ z ∧ z ≤ n) → (∀ r0 l, rs = r0 :: l → (∀ row, r0 < row → row < n → row ∉ rs → f row = f (row - 1)) → strS f n rs = sumN f n.toNat - sumN f r0.toNat)
  | [], _, _ => fun r0 l e => by cases e
  | [r], hs, hb => fun r0 l e hst => by
    cases e
    have b := hb r (List.mem_cons_self ..)
    have c := sum_const (f := f) (c := f r) (a := r.toNat) (b := n.toNat) (by omega) fun j h1 h2 => const_from' (b := n) (fun row h3 h4 => hst row h3 h4 fun hm => by
      rw [List.mem_singleton.mp hm] at h3; omega) (by omega) (by omega)
    show (n - r) * f r = _
    rw [c, show ((n.toNat : Int) - (r.toNat : Int)) = n - r by omega]
    omega
  | r :: r' :: l, hs, hb => fun r0 l0 e hst => by
    cases e
    have b := hb r (List.mem_cons_self ..)
    have b' := hb r' (List.mem_cons_of_mem _ (List.mem_cons_self ..))
    obtain ⟨h1, h2⟩ := List.pairwise_cons.mp hs
    have hrr := h1 r' (List.mem_cons_self ..)
    obtain ⟨h3, h4⟩ := List.pairwise_cons.mp h2
    have c := sum_const (f := f) (c := f r) (a := r.toNat) (b := r'.toNat) (by omega) fun j j1 j2 => const_from' (b := r') (fun row h5 h6 => hst row h5 (by omega) fun hm => by
      rcases List.mem_cons.mp hm with hm | hm
      · omega
      rcases List.mem_cons.mp hm with hm | hm
      · omega
      · have := h3 row hm; omega) (by omega) (by omega)
    have ih := strS_sum (f := f) (n := n) (r' :: l) h2 (fun z hz => hb z (List.mem_cons_of_mem _ hz)) r' l rfl fun row h5 h6 h7 => hst row (by omega) h6 fun hm => by
      rcases List.mem_cons.mp hm with hm | hm
      · omega
      · exact h7 hm
    show (r' - r) * f r + strS f n (r' :: l) = _
    rw [ih, c, show ((r'.toNat : Int) - (r.toNat : Int)) = r' - r by omega]
    omega
/-- rows that hold all steps, 0 among them -/
theorem strS_all {f : Int → Int} {n : Int} {rs : List Int} (hs : rs.Pairwise (· ≤ ·)) (hb : ∀ z ∈ rs, 0 ≤ z ∧ z < n) (h0 : 0 < n → (0 : Int) ∈ rs) (hst : ∀ row, 0 < row → row < n → row ∉ rs → f row = f (row - 1)) : strS f n rs = sumN f n.toNat := by
  cases rs with
  | nil =>
    have : ¬ 0 < n := fun z => nomatch h0 z
    show 0 = _
    rw [show n.toNat = 0 by omega]; rfl
  | cons r l =>
    have hb1 := hb r (List.mem_cons_self ..)
    have hr : r = 0 := by
      have m := h0 (by omega)
      rcases List.mem_cons.mp m with e | e
      · exact e.symm
      · have := (List.pairwise_cons.mp hs).1 0 e; omega
    subst hr
    rw [strS_sum (0 :: l) hs (fun z hz => by have := hb z hz; omega) 0 l rfl hst]
    show _ - sumN f 0 = _
    exact Int.sub_zero _
/-! ### where bits and values step -/
theorem inB_step {row : Int} : ∀ {es : List Int}, row ∉ es → inB es row = inB es (row - 1)
  | [], _ => rfl
  | e :: r, h => by
    have h1 : row ≠ e := fun z => h (by rw [z]; exact List.mem_cons_self ..)
    have h2 := inB_step (row := row) (es := r) fun z => h (List.mem_cons_of_mem _ z)
    rw [inB_cons, inB_cons, h2]
    by_cases hl : e ≤ row
    · rw [if_pos hl, if_pos (by omega)]
    · rw [if_neg hl, if_neg (by omega)]
end S
namespace S
open PySem PySem.Spec PyProof.Rows L2
end S
-- fn: _law_pieces
-- law: k22
-- deps: Column_of_runs D0 D1 _law_draw _law_ends _law_value _law_places
namespace S
open PySem PySem.Spec PyProof.Rows L2
theorem Runs.x {K : Frag} {H H' : Hp} {st : Addr} {ys l : List V} {R : List (Int × Option Int)} (h : Runs K H ys R) (e : SameX st H H') (hst : H st = some (.lst l)) : Runs K H' ys R := Paired.mapP h fun _ _ ⟨a, h1, h2⟩ => ⟨a, h1, e.tup h2 hst⟩
end S
namespace S
open PySem PySem.Spec PyProof.Rows L2
end S
namespace S
open PySem PySem.Spec PyProof.Rows L2
end S
-- fn: _law_starts _law_value_at
-- law: k22
-- deps: _law_pieces
namespace S
open PySem PySem.Spec PyProof.Rows L2
end S
-- deps: _law_pieces _law_starts D0 D1
namespace S
open PySem PySem.Spec PyProof.Rows L2
/-- runs as a list on the heap -/
structure RunL (K : Frag) (H : Hp) (p : Addr) (n : Int) (R : List (Int × Option Int)) : Prop where
  ex : ∃ ys, H p = some (.lst ys) ∧ Runs K H ys R
  tot : total R = n
  pos : ∀ r ∈ R, 0 < r.1
  len : R.length ≤ 20
  wid : ∀ r ∈ R, widO r.2 ≤ 100
theorem RunL.same {K : Frag} {H H' : Hp} {p : Addr} {n : Int} {R : List (Int × Option Int)} (h : RunL K H p n R) (e : Same H H') : RunL K H' p n R := ⟨let ⟨ys, a, b⟩ := h.ex; ⟨ys, e _ _ a, b.same e⟩, h.tot, h.pos, h.len, h.wid⟩
theorem RunL.x {K : Frag} {H H' : Hp} {p st : Addr} {n : Int} {l : List V} {R : List (Int × Option Int)} (h : RunL K H p n R) (e : SameX st H H') (hst : H st = some (.lst l)) (pst : p ≠ st) : RunL K H' p n R := ⟨let ⟨ys, a, b⟩ := h.ex; ⟨ys, e _ _ a pst, b.x e hst⟩, h.tot, h.pos, h.len, h.wid⟩
end S
-- deps: Sm0 RunL
/-! ## sums over rows of runs -/
namespace S
open PySem PySem.Spec PyProof.Rows L2
end S
namespace S
open PySem PySem.Spec PyProof.Rows L2
def t_Summarydd_initdd_b1 (K : Frag) (E : XK) : TS :=
    dIfS (dNot (dChainT oLe oLe (tC (.int 0)) (dVar 3) (dVar 1))) (dGivS (ExF K "BadSummary" ["SliceError"]) (dRaise K "BadSummary" (WD E))) (tNext)
def t_Summarydd_initdd_4 (K : Frag) (E : XK) : TS :=
    dSto K "half" (tOp oShl (tC (.int 1)) (tOp oSub (tCB (cLen K) (tCons (dAt K "counts" (dVar 0)) (tNil))) (tC (.int 1)))) (dVar 0)
def t_Summarydd_initdd_3 (K : Frag) (E : XK) : TS :=
    tSeq (dSto K "counts" (tCB (cTuple K) (tCons (dVar 2) (tNil))) (dVar 0))
    (stop (t_Summarydd_initdd_4 K E))
def t_Summarydd_initdd_2 (K : Frag) (E : XK) : TS :=
    tSeq (dSto K "many" (dVar 1) (dVar 0))
    (stop (t_Summarydd_initdd_3 K E))
def t_Summarydd_initdd_1 (K : Frag) (E : XK) : TS :=
    tSeq (dFor (iSeq K (dVar 2)) (gName 3) (t_Summarydd_initdd_b1 K E))
    (stop (t_Summarydd_initdd_2 K E))
def t_Summarydd_initdd (K : Frag) (E : XK) : TS :=
    tSeq (dIfS (dOr (dCmpT oLt (dVar 1) (tC (.int 0))) (dCmpT (oEq K) (tCB (cLen K) (tCons (dVar 2) (tNil))) (tC (.int 0)))) (dGivS (ExF K "BadSummary" ["SliceError"]) (dRaise K "BadSummary" (WD E))) (tNext))
    (stop (t_Summarydd_initdd_1 K E))
end S
-- fn: Summary.__init__
-- law: k31
-- deps: D0 D1 Sm
namespace S
open PySem PySem.Spec PyProof.Rows L2
abbrev SuF (K : Frag) : Prop := DF K "Summary" [] ["many", "counts", "half"]
def okC (many : Int) (cs : List Int) : Prop := 0 ≤ many ∧ cs ≠ [] ∧ ∀ c ∈ cs, 0 ≤ c ∧ c ≤ many
/-- a summary: its number of rows, its counts -/
def Su (K : Frag) (H : Hp) (a : Addr) (many : Int) (cs : List Int) : Prop := SuF K ∧ okC many cs ∧ cs.length ≤ 1000 ∧ ∃ dx u, H a = some (.ins (He.ga K "Summary") dx [("many", .int many), ("counts", .ref u), ("half", .int (2 ^ (cs.length - 1)))]) ∧ SqT K H u (cs.map V.int)
theorem Su.same {K : Frag} {H H' : Hp} {a : Addr} {many : Int} {cs : List Int} (h : Su K H a many cs) (e : Same H H') : Su K H' a many cs := by
  obtain ⟨c, o, l, dx, u, h1, h2⟩ := h
  exact ⟨c, o, l, dx, u, e _ _ h1, Same.tup e h2⟩
theorem Su.x {K : Frag} {H H' : Hp} {a st : Addr} {many : Int} {cs : List Int} {l : List V} (h : Su K H a many cs) (e : SameX st H H') (hst : H st = some (.lst l)) : Su K H' a many cs := by
  obtain ⟨c, o, ll, dx, u, h1, h2⟩ := h
  exact ⟨c, o, ll, dx, u, e _ _ h1 (ne_of h1 hst fun z => by cases z), e.tup h2 hst⟩
def sp_Summarydd_initdd (K : Frag) : Sp := fun vs H Q E => ∃ (H0 : Hp) (x dx q : Addr) (many : Int) (cs : List Int), vs = [.ref x, .int many, .ref q] ∧ SuF K ∧ H0 x = none ∧ H0 dx = none ∧ Same H0 H ∧ H x = some (.ins (He.ga K "Summary") dx []) ∧ SqA K H0 q (cs.map V.int) ∧ cs.length ≤ 1000 ∧
  (okC many cs → ∀ H', Same H0 H' → Su K H' x many cs → Q .non H') ∧ (¬ okC many cs → XF K "BadSummary" → E (.ref (He.ga K "BadSummary")) none H)
theorem pure_Summarydd_initdd {K : Frag} (vs : List V) (H : Hp) (Q : VK) (E : XK) (h : sp_Summarydd_initdd K vs H Q E) : t_Summarydd_initdd K E { nx := fun _ H' => Q .non H', rt := Q } (start ["self", "many", "counts", "count"] vs) H := by
  obtain ⟨H0, x, dx, q, many, cs, rfl, sf, nx, ndx, e0, hx, hq, lc, good, bad⟩ := h
  have hq1 := Same.sqa e0 hq
  have rest : 0 ≤ many → cs ≠ [] → t_Summarydd_initdd_1 K E { nx := fun _ H' => Q .non H', rt := Q } [some (.ref x), some (.int many), some (.ref q), none] H := by
    intro m0 ne
    walk_at "gx"
    refine for_seq (K := K) (fun j σ H1 => H1 = H ∧ ∃ (k : Option V), σ = [some (.ref x), some (.int many), some (.ref q), k] ∧ ∀ c ∈ cs.take j, 0 ≤ c ∧ c ≤ many) hq1 ⟨rfl, none, rfl, fun _ z => by simp at z⟩ (fun i σ H' _ z => by rw [z.1]; exact Same.stay (Same.refl _)) ?_ ?_
    · rintro j v σ H1 hj ⟨rfl, k, rfl, hall⟩
      obtain ⟨c, hc, rfl⟩ := map_get hj
      have tk : cs.take (j + 1) = cs.take j ++ [c] := by rw [List.take_succ, hc]; rfl
      walk_at "gx"
      refine ifd (fun h1 => ?_) (fun h1 => ?_)
      · walk_at "gx"
        refine ifn (fun h2 => ?_) (fun h2 => ?_)
        · exact fun xf => bad (fun z => h2 (z.2.2 c (List.mem_of_getElem? hc)).2) xf
        · refine ⟨rfl, _, rfl, fun d hd => ?_⟩
          rw [tk] at hd
          rcases List.mem_append.mp hd with hd | hd
          · exact hall d hd
          · rw [List.mem_singleton.mp hd]; exact ⟨h1, h2⟩
      · exact fun xf => bad (fun z => h1 (z.2.2 c (List.mem_of_getElem? hc)).1) xf
    · rintro σ H1 ⟨rfl, k, rfl, hall⟩
      rw [List.length_map, List.take_length] at hall
      have ok : okC many cs := ⟨m0, ne, hall⟩
      have hl0 : cs.length ≠ 0 := fun z => ne (List.eq_nil_of_length_eq_zero z)
      walk_at "gx"
      refine Sto.df sf hx (by simp) ?_
      have e1 := Same.mut e0 (o := .ins (He.ga K "Summary") dx [("many", .int many)]) nx
      have hq2 := Same.sqa e1 hq
      walk_at "gx"
      try refine Rd.sa hq2 ?_
      refine ⟨fun u H2 e2 hu => ?_⟩
      have hx2 : H2 x = some (.ins (He.ga K "Summary") dx [("many", .int many)]) := e2 _ _ upd_same
      walk_at "gx"
      refine Sto.df sf hx2 (by simp) ?_
      have e3 := Same.mut (e1.trans e2) (o := .ins (He.ga K "Summary") dx [("many", .int many), ("counts", .ref u)]) nx
      have hx3 : L2.upd H2 x (.ins (He.ga K "Summary") dx [("many", .int many), ("counts", .ref u)]) x = some (.ins (He.ga K "Summary") dx [("many", .int many), ("counts", .ref u)]) := upd_same
      have hu3 : SqT K (L2.upd H2 x (.ins (He.ga K "Summary") dx [("many", .int many), ("counts", .ref u)])) u (cs.map V.int) := by
        rcases hu with (h | ⟨o, h⟩) | h
        · exact .inl (.inl (by rw [upd_ne (ne_of h hx2 fun z => by cases z)]; exact h))
        · exact .inl (.inr ⟨o, by rw [upd_ne (ne_of h hx2 fun z => by cases z)]; exact h⟩)
        · exact .inr h
      walk_at "gx"
      refine Atr.df sf hx3 rfl ?_
      try refine Rd.st hu3 ?_
      have en : (((cs.map V.int).length : Int) - 1).toNat = cs.length - 1 := by rw [List.length_map]; omega
      try refine Need.mk ⟨by rw [List.length_map]; show 0 ≤ (cs.length : Int) - 1; omega, by rw [List.length_map]; show (cs.length : Int) - 1 ≤ 1000000; omega, by decide⟩ ?_
      refine Sto.df sf hx3 (by simp) ?_
      have e4 := Same.mut e3 (o := .ins (He.ga K "Summary") dx [("many", .int many), ("counts", .ref u), ("half", .int (2 ^ (cs.length - 1)))]) nx
      have eh : (1 : Int) * 2 ^ (((cs.map V.int).length : Int) - 1).toNat = 2 ^ (cs.length - 1) := by rw [en, Int.one_mul]
      show Q .non (L2.upd (L2.upd H2 x (.ins (He.ga K "Summary") dx [("many", .int many), ("counts", .ref u)])) x (.ins (He.ga K "Summary") dx [("many", .int many), ("counts", .ref u), ("half", .int ((1 : Int) * 2 ^ (((cs.map V.int).length : Int) - 1).toNat))]))
      rw [eh]
      refine good ok _ e4 ⟨sf, ok, lc, dx, u, upd_same, ?_⟩
      rcases hu3 with (h | ⟨o, h⟩) | h
      · exact .inl (.inl (by rw [upd_ne (ne_of h hx3 fun z => by cases z)]; exact h))
      · exact .inl (.inr ⟨o, by rw [upd_ne (ne_of h hx3 fun z => by cases z)]; exact h⟩)
      · exact .inr h
  walk_at "gx"
  refine ifd (fun h1 => ?_) (fun h1 => ?_)
  · have h1 : many < 0 := h1
    exact fun xf => bad (fun z => by have := z.1; omega) xf
  walk_at "gx"
  try refine Rd.sa hq1 ?_
  refine ifd (fun h2 => ?_) (fun h2 => ?_)
  · have h2 : ((cs.map V.int).length : Int) = 0 := h2
    rw [List.length_map] at h2
    exact fun xf => bad (fun z => z.2.1 (List.eq_nil_of_length_eq_zero (by omega))) xf
  · have h2 : ¬ ((cs.map V.int).length : Int) = 0 := h2
    rw [List.length_map] at h2
    have h1 : ¬ many < 0 := h1
    exact ⟨rest (by omega) fun z => h2 (by rw [z]; rfl)⟩
/-- a summary is made -/
theorem mk_summary {K : Frag} {H : Hp} {many : Int} {cs : List Int} {q : Addr} {R : Addr → Hp → Prop} {E : XK} (sf : SuF K) (hq : SqA K H q (cs.map V.int)) (lc : cs.length ≤ 1000) (good : okC many cs → ∀ x H', Same H H' → H x = none → Su K H' x many cs → R x H')
    (bad : ¬ okC many cs → XF K "BadSummary" → ∀ H', Same H H' → E (.ref (He.ga K "BadSummary")) none H') :
    NewI K H "Summary" fun x H2 => sp_Summarydd_initdd K [.ref x, .int many, .ref q] H2 (fun v H3 => v = .non ∧ R x H3) E := by
  refine ⟨fun x dx h1 h2 hne => ?_⟩
  have e : Same H (upd (upd H dx (.own x)) x (.ins (He.ga K "Summary") dx [])) := fun b o h => by
    rw [upd_ne (ne_of_none h h1), upd_ne (ne_of_none h h2)]; exact h
  exact ⟨H, x, dx, q, many, cs, rfl, sf, h1, h2, e, upd_same, hq, lc, fun ok H' e' hs => ⟨rfl, good ok x H' e' h1 hs⟩, fun nb xf => bad nb xf _ e⟩
end S
namespace S
open PySem PySem.Spec PyProof.Rows L2
def t_Summary_outside (K : Frag) (E : XK) : TS :=
    tRet (dOrV (tOp oGe (dVar 1) (dAt K "half" (dVar 0))) (dAndV (dVar 2) (tOp oLt (dVar 1) (tUn uNeg (dAt K "half" (dVar 0))))))
end S
namespace S
open PySem PySem.Spec PyProof.Rows L2
def t_Summary_steps_b1_5 (K : Frag) (E : XK) : TS :=
    tDrop (dML K mApp (dVar 4) (tCons (dTup K (tCons (dOrV (tOp (oEq K) (dVar 7) (tC (.int 1))) (dVar 2)) (tCons (dVar 9) (tCons (dVar 10) (tNil))))) (tNil)))
def t_Summary_steps_b1_4 (K : Frag) (E : XK) : TS :=
    tSeq (dIfS (dTest K (dVar 9)) (tAsg (tOp oSub (dAt K "many" (dVar 0)) (dVar 6)) (gName 10)) (tNext))
    (stop (t_Summary_steps_b1_5 K E))
def t_Summary_steps_b1_3 (K : Frag) (E : XK) : TS :=
    tSeq (tAsg (dVar 6) (gName 10))
    (stop (t_Summary_steps_b1_4 K E))
def t_Summary_steps_b1_2 (K : Frag) (E : XK) : TS :=
    tSeq (tAsg (tOp (oEq K) (dOrV (tOp (oEq K) (dVar 7) (tC (.int 1))) (dNotV (dVar 2))) (dVar 8)) (gName 9))
    (stop (t_Summary_steps_b1_3 K E))
def t_Summary_steps_b1_1 (K : Frag) (E : XK) : TS :=
    tSeq (tAsg (tOp (oEq K) (dVar 5) (tOp oSub (tCB (cLen K) (tCons (dAt K "counts" (dVar 0)) (tNil))) (tC (.int 1)))) (gName 8))
    (stop (t_Summary_steps_b1_2 K E))
def t_Summary_steps_b1 (K : Frag) (E : XK) : TS :=
    tSeq (tAsg (tOp oAnd (tOp oShr (dVar 3) (dVar 5)) (tC (.int 1))) (gName 7))
    (stop (t_Summary_steps_b1_1 K E))
def t_Summary_steps_3 (K : Frag) (E : XK) : TS :=
    tRet (dVar 4)
def t_Summary_steps_2 (K : Frag) (E : XK) : TS :=
    tSeq (dFor (iEn K (dAt K "counts" (dVar 0))) (gTup K 2 (gCons (gName 5) (gCons (gName 6) (gNil)))) (t_Summary_steps_b1 K E))
    (stop (t_Summary_steps_3 K E))
def t_Summary_steps_1 (K : Frag) (E : XK) : TS :=
    tSeq (tAsg (dLst (tNil)) (gName 4))
    (stop (t_Summary_steps_2 K E))
def t_Summary_steps (K : Frag) (E : XK) : TS :=
    tSeq (tAsg (tOp (oAdd K) (tCB cMax2 (tCons (dVar 1) (tCons (tUn uNeg (dAt K "half" (dVar 0))) (tNil)))) (dAt K "half" (dVar 0))) (gName 3))
    (stop (t_Summary_steps_1 K E))
end S
namespace S
open PySem PySem.Spec PyProof.Rows L2
def t_Summary_ranges_b1_1 (K : Frag) (E : XK) : TS :=
    tDrop (dML K mApp (dVar 4) (tCons (dTup K (tCons (dVar 2) (tCons (dVar 3) (tNil)))) (tNil)))
def t_Summary_ranges_b1 (K : Frag) (E : XK) : TS :=
    tSeq (dIfS (dTest K (dVar 5)) (tSeq (tAsg (tCB cMax2 (tCons (tC (.int 0)) (tCons (tOp oSub (tOp (oAdd K) (dVar 7) (dVar 2)) (dAt K "many" (dVar 0))) (tNil)))) (gName 2))
    (tAsg (tCB cMin2 (tCons (dVar 7) (tCons (dVar 3) (tNil)))) (gName 3))) (tSeq (tAsg (tCB cMax2 (tCons (dVar 7) (tCons (dVar 2) (tNil)))) (gName 2))
    (tAsg (tCB cMin2 (tCons (dAt K "many" (dVar 0)) (tCons (tOp (oAdd K) (dVar 7) (dVar 3)) (tNil)))) (gName 3))))
    (stop (t_Summary_ranges_b1_1 K E))
def t_Summary_ranges_3 (K : Frag) (E : XK) : TS :=
    tRet (dVar 4)
def t_Summary_ranges_2 (K : Frag) (E : XK) : TS :=
    tSeq (dFor (iSeq K (dVar 1)) (gTup K 3 (gCons (gName 5) (gCons (gName 6) (gCons (gName 7) (gNil))))) (t_Summary_ranges_b1 K E))
    (stop (t_Summary_ranges_3 K E))
def t_Summary_ranges_1 (K : Frag) (E : XK) : TS :=
    tSeq (tAsg (dLst (tCons (dTup K (tCons (dVar 2) (tCons (dVar 3) (tNil)))) (tNil))) (gName 4))
    (stop (t_Summary_ranges_2 K E))
def t_Summary_ranges (K : Frag) (E : XK) : TS :=
    tSeq (tAsg2 (dAt K "many" (dVar 0)) (gName 2) (gName 3))
    (stop (t_Summary_ranges_1 K E))
end S
-- fn: Summary.outside Summary.steps Summary.ranges
-- law: k31
-- deps: Summary_init
namespace S
open PySem PySem.Spec PyProof.Rows L2
def halfC (cs : List Int) : Int := 2 ^ (cs.length - 1)
def outB (cs : List Int) (number : Int) (eq : Bool) : Bool := decide (halfC cs ≤ number) || (eq && decide (number < -halfC cs))
def sp_Summary_outside (K : Frag) : Sp := fun vs H Q _ => ∃ (a : Addr) (number many : Int) (eq : Bool) (cs : List Int), vs = [.ref a, .int number, .bl eq] ∧ Su K H a many cs ∧ Q (.bl (outB cs number eq)) H
theorem pure_Summary_outside {K : Frag} (vs : List V) (H : Hp) (Q : VK) (E : XK) (h : sp_Summary_outside K vs H Q E) : t_Summary_outside K E { nx := fun _ H' => Q .non H', rt := Q } (start ["self", "number", "equal"] vs) H := by
  obtain ⟨a, number, many, eq, cs, rfl, ⟨sf, ok, lc, dx, u, ha, hu⟩, q⟩ := h
  unfold outB at q
  walk_at "gx"
  refine Atr.df sf ha rfl ?_
  refine ifd (fun h1 => ?_) (fun h1 => ?_)
  · have h1 : halfC cs ≤ number := h1
    rw [decide_eq_true h1] at q
    exact q
  · have h1 : ¬ halfC cs ≤ number := h1
    rw [decide_eq_false h1] at q
    cases eq with
    | false => exact q
    | true =>
      walk_at "gx"
      refine Atr.df sf ha rfl ?_
      exact q
/-- one step: whether rows must match, whether set bits count as 0, how many match -/
abbrev Stp := Bool × Bool × Int
def stepsM (w : Int) (eq : Bool) (many : Int) (len : Nat) : Nat → List Int → List Stp
  | _, [] => []
  | j, c :: r => (bitI w j || eq, (bitI w j || !eq) == decide (j + 1 = len), if ((bitI w j || !eq) == decide (j + 1 = len)) = true then many - c else c) :: stepsM w eq many len (j + 1) r
theorem stepsM_len (w : Int) (eq : Bool) (many : Int) (len : Nat) : ∀ (cs : List Int) (j : Nat), (stepsM w eq many len j cs).length = cs.length
  | [], _ => rfl
  | c :: r, j => by
    show (stepsM w eq many len (j + 1) r).length + 1 = r.length + 1
    rw [stepsM_len w eq many len r (j + 1)]
theorem stepsM_snoc (w : Int) (eq : Bool) (many : Int) (len : Nat) (c : Int) : ∀ (l : List Int) (j : Nat), stepsM w eq many len j (l ++ [c]) = stepsM w eq many len j l ++ stepsM w eq many len (j + l.length) [c]
  | [], j => rfl
  | d :: l, j => by
    show _ :: stepsM w eq many len (j + 1) (l ++ [c]) = _ :: (stepsM w eq many len (j + 1) l ++ _)
    rw [stepsM_snoc w eq many len c l (j + 1), List.length_cons, show j + 1 + l.length = j + (l.length + 1) by omega]
/-- steps on the heap -/
def Stps (K : Frag) (H : Hp) (T : List Stp) (ys : List V) : Prop := Paired (fun (s : Stp) y => ∃ t, y = .ref t ∧ SqT K H t [.bl s.1, .bl s.2.1, .int s.2.2]) T ys
theorem Stps.same {K : Frag} {H H' : Hp} {T : List Stp} {ys : List V} (h : Stps K H T ys) (e : Same H H') : Stps K H' T ys := Paired.mapP h fun _ _ ⟨t, a, b⟩ => ⟨t, a, Same.tup e b⟩
theorem Stps.x {K : Frag} {H H' : Hp} {T : List Stp} {ys : List V} {st : Addr} {l : List V} (h : Stps K H T ys) (e : SameX st H H') (hst : H st = some (.lst l)) : Stps K H' T ys := Paired.mapP h fun _ _ ⟨t, a, b⟩ => ⟨t, a, e.tup b hst⟩
def wantM (cs : List Int) (number : Int) : Int := max number (-halfC cs) + halfC cs
theorem bit_and1 (w : Int) (j : Nat) : Builtin.bitAnd (w / 2 ^ j) 1 = if bitI w j = true then 1 else 0 := by
  rw [bitAnd_m1]
  unfold bitI
  by_cases h : (w / 2 ^ j) % 2 = 1
  · simp [h]
  · have : (w / 2 ^ j) % 2 = 0 := by omega
    simp [this]
def sp_Summary_steps (K : Frag) : Sp := fun vs H Q _ => ∃ (a : Addr) (number many : Int) (eq : Bool) (cs : List Int), vs = [.ref a, .int number, .bl eq] ∧ Su K H a many cs ∧
  ∀ (l : Addr) (ys : List V) (H' : Hp), Same H H' → H l = none → H' l = some (.lst ys) → Stps K H' (stepsM (wantM cs number) eq many cs.length 0 cs) ys → Q (.ref l) H'
def s31 (a d : Addr) (number : Int) (eq : Bool) (w : Int) (c1 c2 c3 c4 c5 c6 : Option V) : L2.St := [some (.ref a), some (.int number), some (.bl eq), some (.int w), some (.ref d), c1, c2, c3, c4, c5, c6]
def inv31 (K : Frag) (H0 : Hp) (a d : Addr) (number : Int) (eq : Bool) (many : Int) (cs : List Int) (i : Nat) (σ : L2.St) (H1 : Hp) : Prop := ∃ (ys : List V) (c1 c2 c3 c4 c5 c6 : Option V), σ = s31 a d number eq (wantM cs number) c1 c2 c3 c4 c5 c6 ∧ SameX d H0 H1 ∧ H1 d = some (.lst ys) ∧ Stps K H1 (stepsM (wantM cs number) eq many cs.length 0 (cs.take i)) ys ∧ ys.length ≤ i
theorem st_last {K : Frag} {E : XK} {H0 H2 : Hp} {a d : Addr} {number many m : Int} {eq bi fl tp : Bool} {cs : List Int} {i : Nat} {c : Int} {ys : List V} {D : L2.Ends} (hc : cs[i]? = some c) (ex : SameX d H0 H2) (hd2 : H2 d = some (.lst ys)) (hS : Stps K H2 (stepsM (wantM cs number) eq many cs.length 0 (cs.take i)) ys) (ly : ys.length ≤ i) (lc : cs.length ≤ 1000)
    (hbi : bi = bitI (wantM cs number) i) (hfl : fl = ((bi || !eq) == decide (i + 1 = cs.length))) (hm : m = if fl = true then many - c else c) (q : ∀ σ H', inv31 K H0 a d number eq many cs (i + 1) σ H' → D.nx σ H') :
    t_Summary_steps_b1_5 K E D (s31 a d number eq (wantM cs number) (some (.int i)) (some (.int c)) (some (.int (if bi = true then 1 else 0))) (some (.bl tp)) (some (.bl fl)) (some (.int m))) H2 := by
  have hic : i < cs.length := (List.getElem?_eq_some_iff.mp hc).1
  have tk : cs.take (i + 1) = cs.take i ++ [c] := by rw [List.take_succ, hc]; rfl
  have li : (cs.take i).length = i := by rw [List.length_take]; omega
  have fin : ∀ (x : Bool), x = (bi || eq) → ∀ t H3, Same H2 H3 → SqT K H3 t [.bl x, .bl fl, .int m] → D.nx (s31 a d number eq (wantM cs number) (some (.int i)) (some (.int c)) (some (.int (if bi = true then 1 else 0))) (some (.bl tp)) (some (.bl fl)) (some (.int m))) (L2.upd H3 d (.lst (ys ++ [.ref t]))) := by
    intro x hx t H3 e3 ht
    have hd3 := e3 _ _ hd2
    have e4 : SameX d H3 (L2.upd H3 d (.lst (ys ++ [V.ref t]))) := SameX.upd
    refine q _ _ ⟨ys ++ [.ref t], _, _, _, _, _, _, rfl, fun b o hb hn => e4 _ _ (e3 _ _ (ex _ _ hb hn)) hn, upd_same, ?_, by rw [List.length_append, List.length_singleton]; omega⟩
    rw [tk, stepsM_snoc, li, Nat.zero_add]
    refine Paired.snoc ((hS.same e3).x e4 hd3) ⟨t, rfl, ?_⟩
    have := e4.tup ht hd3
    rw [hm, hx, hfl, hbi] at this
    exact this
  have lb : ys.length < sizeLine := by rw [sizeLine_eq]; omega
  cases bi with
  | true =>
    walk_at "gx"
    refine ⟨fun t H3 e3 ht => ?_⟩
    have hd3 := e3 _ _ hd2
    refine Ls.of hd3 ?_
    exact Need.mk lb (fin true rfl t H3 e3 ht)
  | false =>
    walk_at "gx"
    refine ⟨fun t H3 e3 ht => ?_⟩
    have hd3 := e3 _ _ hd2
    refine Ls.of hd3 ?_
    exact Need.mk lb (fin eq rfl t H3 e3 ht)
theorem dec_beq (p q : Bool) : decide (p = q) = (p == q) := by cases p <;> cases q <;> rfl
theorem st_mid {K : Frag} {E : XK} {H0 H2 : Hp} {a d dx u : Addr} {number many : Int} {eq bi tp : Bool} {cs : List Int} {i : Nat} {c : Int} {ys : List V} {D : L2.Ends} {c5 c6 : Option V} (sf : SuF K) (ha : H2 a = some (.ins (He.ga K "Summary") dx [("many", .int many), ("counts", .ref u), ("half", .int (2 ^ (cs.length - 1)))])) (hc : cs[i]? = some c) (ex : SameX d H0 H2) (hd2 : H2 d = some (.lst ys)) (hS : Stps K H2 (stepsM (wantM cs number) eq many cs.length 0 (cs.take i)) ys) (ly : ys.length ≤ i) (lc : cs.length ≤ 1000)
    (hbi : bi = bitI (wantM cs number) i) (htp : tp = decide (i + 1 = cs.length)) (q : ∀ σ H', inv31 K H0 a d number eq many cs (i + 1) σ H' → D.nx σ H') :
    t_Summary_steps_b1_2 K E D (s31 a d number eq (wantM cs number) (some (.int i)) (some (.int c)) (some (.int (if bi = true then 1 else 0))) (some (.bl tp)) c5 c6) H2 := by
  have go : ∀ fl : Bool, fl = ((bi || !eq) == tp) → t_Summary_steps_b1_3 K E D (s31 a d number eq (wantM cs number) (some (.int i)) (some (.int c)) (some (.int (if bi = true then 1 else 0))) (some (.bl tp)) (some (.bl fl)) c6) H2 := by
    intro fl hfl
    rw [htp] at hfl
    cases fl with
    | true =>
      refine ⟨?_⟩
      refine Atr.df sf ha rfl ?_
      exact ⟨st_last hc ex hd2 hS ly lc hbi hfl rfl q⟩
    | false =>
      refine ⟨?_⟩
      exact ⟨st_last hc ex hd2 hS ly lc hbi hfl rfl q⟩
  cases bi with
  | true =>
    exact ⟨go _ (by rw [dec_beq]; rfl)⟩
  | false =>
    exact ⟨go _ (by rw [dec_beq]; rfl)⟩
theorem pure_Summary_steps {K : Frag} (vs : List V) (H : Hp) (Q : VK) (E : XK) (h : sp_Summary_steps K vs H Q E) : t_Summary_steps K E { nx := fun _ H' => Q .non H', rt := Q } (start ["self", "number", "equal", "wanted", "result", "place", "count", "bit", "top", "flipped", "matching"] vs) H := by
  obtain ⟨a, number, many, eq, cs, rfl, ⟨sf, ok, lc, dx, u, ha, hu⟩, q⟩ := h
  walk_at "gx"
  refine Atr.df sf ha rfl ?_
  walk_at "gx"
  refine Atr.df sf ha rfl ?_
  walk_at "gx"
  refine ⟨fun d nd => ?_⟩
  have e1 := same_new (o := .lst ([] : List V)) nd
  have hd : upd H d (.lst []) d = some (.lst []) := upd_same
  walk_at "gx"
  refine Atr.df sf (e1 _ _ ha) rfl ?_
  refine for_en (inv31 K (upd H d (.lst [])) a d number eq many cs) (Same.tup e1 hu) ⟨[], none, none, none, none, none, none, rfl, SameX.refl _ _, hd, .nil, Nat.le_refl _⟩ (fun i σ H1 _ z => let ⟨_, _, _, _, _, _, _, _, e, _⟩ := z; e.tup (Same.tup e1 hu) hd) ?_ ?_
  · rintro i v σ H1 hi ⟨ys, c1, c2, c3, c4, c5, c6, rfl, ex, hd1, hS, lys⟩ T hT
    obtain ⟨c, hc, rfl⟩ := map_get hi
    have e2 : Same H1 (upd H1 T (.tup [.int (i : Int), .int c])) := same_new hT
    have hT2 : SqT K (upd H1 T (.tup [.int (i : Int), .int c])) T [.int (i : Int), .int c] := SqT.of upd_same
    generalize upd H1 T (.tup [.int (i : Int), .int c]) = H2 at e2 hT2 ⊢
    have ha2 : H2 a = some (.ins (He.ga K "Summary") dx [("many", .int many), ("counts", .ref u), ("half", .int (2 ^ (cs.length - 1)))]) := e2 _ _ (ex _ _ (e1 _ _ ha) (ne_of_none ha nd))
    have hu2 : SqT K H2 u (cs.map V.int) := Same.tup e2 (ex.tup (Same.tup e1 hu) hd)
    have hd2 := e2 _ _ hd1
    refine ⟨T, _, rfl, hT2, rfl, _, _, rfl, ?_⟩
    refine ⟨_, _, rfl, ?_⟩
    refine ⟨rfl, ?_⟩
    walk_at "gx"
    have eb : Builtin.bitAnd (wantM cs number / 2 ^ ((i : Int)).toNat) 1 = if bitI (wantM cs number) i = true then 1 else 0 := by rw [Int.toNat_natCast]; exact bit_and1 _ _
    dsimp only
    rw [eb]
    refine Atr.df sf ha2 rfl ?_
    refine Rd.st hu2 ?_
    have et : decide ((i : Int) = ((cs.map V.int).length : Int) - 1) = decide (i + 1 = cs.length) := by
      rw [List.length_map]; exact decide_eq_decide.mpr ⟨fun h => by omega, fun h => by omega⟩
    exact ⟨st_mid sf ha2 hc (fun b o hb hn => e2 _ _ (ex _ _ hb hn)) hd2 (hS.same e2) lys lc rfl et fun _ _ z => z⟩
  · rintro σ H1 ⟨ys, c1, c2, c3, c4, c5, c6, rfl, ex, hd1, hS, lys⟩
    rw [List.length_map, List.take_length] at hS
    walk_at "gx"
    exact q d ys H1 (SameX.same e1 ex nd) nd hd1 hS
/-! ### ranges -/
def rngF (many : Int) (b : Int × Int) (s : Stp) : Int × Int := if s.1 = true then (max 0 (s.2.2 + b.1 - many), min s.2.2 b.2) else (max s.2.2 b.1, min many (s.2.2 + b.2))
/-- the last bounds -/
def rngM (many : Int) (T : List Stp) : Int × Int := T.foldl (rngF many) (many, many)
def sp_Summary_ranges (K : Frag) : Sp := fun vs H Q _ => ∃ (a p : Addr) (many : Int) (cs : List Int) (T : List Stp) (ys : List V), vs = [.ref a, .ref p] ∧ Su K H a many cs ∧ H p = some (.lst ys) ∧ Stps K H T ys ∧ T.length ≤ 1000 ∧
  ∀ (l : Addr) (B : List (Int × Int)) (zs : List V) (H' : Hp), Same H H' → H l = none → H' l = some (.lst zs) → Paired (fun (b : Int × Int) y => ∃ t, y = .ref t ∧ SqT K H' t [.int b.1, .int b.2]) B zs → B.length = T.length + 1 → (∀ j, j ≤ T.length → B[j]? = some (rngM many (T.take j))) → Q (.ref l) H'
def sRg (a p d : Addr) (l g : Int) (c1 c2 c3 : Option V) : L2.St := [some (.ref a), some (.ref p), some (.int l), some (.int g), some (.ref d), c1, c2, c3]
abbrev Bnds (K : Frag) (H : Hp) (B : List (Int × Int)) (zs : List V) : Prop := Paired (fun (b : Int × Int) y => ∃ t, y = .ref t ∧ SqT K H t [.int b.1, .int b.2]) B zs
theorem pure_Summary_ranges {K : Frag} (vs : List V) (H : Hp) (Q : VK) (E : XK) (h : sp_Summary_ranges K vs H Q E) : t_Summary_ranges K E { nx := fun _ H' => Q .non H', rt := Q } (start ["self", "steps", "least", "greatest", "result", "meets", "_", "matching"] vs) H := by
  obtain ⟨a, p, many, cs, T, ys, rfl, ⟨sf, ok, lc, dx, u, ha, hu⟩, hp, hT, lT, q⟩ := h
  walk_at "gx"
  refine Atr.df sf ha rfl ?_
  walk_at "gx"
  refine ⟨fun t0 H1 e1 ht0 => ?_⟩
  walk_at "gx"
  refine ⟨fun d nd => ?_⟩
  have e2 := same_new (o := .lst [V.ref t0]) nd
  have e12 := e1.trans e2
  have hd : upd H1 d (.lst [V.ref t0]) d = some (.lst [V.ref t0]) := upd_same
  have nd0 : H d = none := same_none e1 nd
  have hp2 := e12 _ _ hp
  have pd : p ≠ d := ne_of_none hp nd0
  walk_at "gx"
  refine for_seq (K := K) (fun i σ H3 => ∃ (B : List (Int × Int)) (zs : List V) (b : Int × Int) (c1 c2 c3 : Option V), σ = sRg a p d b.1 b.2 c1 c2 c3 ∧ SameX d (upd H1 d (.lst [V.ref t0])) H3 ∧ H3 d = some (.lst zs) ∧ Bnds K H3 B zs ∧ b = rngM many (T.take i) ∧ B.length = i + 1 ∧ ∀ j, j ≤ i → B[j]? = some (rngM many (T.take j)))
    (.inl (SqL.of hp2)) ⟨[(many, many)], [.ref t0], (many, many), none, none, none, rfl, SameX.refl _ _, hd, .cons ⟨t0, rfl, Same.tup e2 ht0⟩ .nil, rfl, rfl, fun j hj => by rw [show j = 0 by omega]; rfl⟩ (fun i σ H' _ z => let ⟨_, _, _, _, _, _, _, e, _⟩ := z; e.stay pd hd) ?_ ?_
  · rintro i v σ H3 hi ⟨B, zs, b, c1, c2, c3, rfl, ex, hd3, hB, hb, lB, hj⟩
    have hiy : i < ys.length := (List.getElem?_eq_some_iff.mp hi).1
    have lys := hT.length
    obtain ⟨s, hs, t, ht, hts⟩ := paired_get hT hi
    subst ht
    have hts3 : SqT K H3 t [.bl s.1, .bl s.2.1, .int s.2.2] := ex.tup (Same.tup e12 hts) hd
    have ha3 : H3 a = some (.ins (He.ga K "Summary") dx [("many", .int many), ("counts", .ref u), ("half", .int (2 ^ (cs.length - 1)))]) := ex _ _ (e12 _ _ ha) (ne_of_none ha nd0)
    have hlz : zs.length < sizeLine := by rw [sizeLine_eq, ← hB.length, lB]; omega
    have tk : T.take (i + 1) = T.take i ++ [s] := by rw [List.take_succ, hs]; rfl
    have hr : rngM many (T.take (i + 1)) = rngF many b s := by rw [tk, hb]; unfold rngM; rw [List.foldl_append]; rfl
    refine ⟨t, _, rfl, hts3, rfl, _, _, rfl, ?_⟩
    refine ⟨_, _, rfl, ?_⟩
    refine ⟨_, _, rfl, ?_⟩
    refine ⟨rfl, ?_⟩
    have last : ∀ b2 : Int × Int, b2 = rngF many b s → t_Summary_ranges_b1_1 K E { nx := fun σ H3 => ∃ (B : List (Int × Int)) (zs : List V) (b : Int × Int) (c1 c2 c3 : Option V), σ = sRg a p d b.1 b.2 c1 c2 c3 ∧ SameX d (upd H1 d (.lst [V.ref t0])) H3 ∧ H3 d = some (.lst zs) ∧ Bnds K H3 B zs ∧ b = rngM many (T.take (i + 1)) ∧ B.length = i + 1 + 1 ∧ ∀ j, j ≤ i + 1 → B[j]? = some (rngM many (T.take j)), ct := fun σ H3 => ∃ (B : List (Int × Int)) (zs : List V) (b : Int × Int) (c1 c2 c3 : Option V), σ = sRg a p d b.1 b.2 c1 c2 c3 ∧ SameX d (upd H1 d (.lst [V.ref t0])) H3 ∧ H3 d = some (.lst zs) ∧ Bnds K H3 B zs ∧ b = rngM many (T.take (i + 1)) ∧ B.length = i + 1 + 1 ∧ ∀ j, j ≤ i + 1 → B[j]? = some (rngM many (T.take j)), bk := stop (t_Summary_ranges_3 K E) { nx := fun _ H' => Q .non H', rt := Q }, rt := Q }
        (sRg a p d b2.1 b2.2 (some (.bl s.1)) (some (.bl s.2.1)) (some (.int s.2.2))) H3 := by
      intro b2 hb2
      walk_at "gx"
      refine ⟨fun t2 H4 e4 ht2 => ?_⟩
      have hd4 := e4 _ _ hd3
      have e5 : SameX d H4 (L2.upd H4 d (.lst (zs ++ [V.ref t2]))) := SameX.upd
      refine Ls.of hd4 ?_
      refine Need.mk hlz ?_
      refine ⟨B ++ [b2], zs ++ [.ref t2], b2, _, _, _, rfl, fun x o hx hn => e5 _ _ (e4 _ _ (ex _ _ hx hn)) hn, upd_same, Paired.snoc (Paired.mapP hB fun _ _ ⟨w, h1, h2⟩ => ⟨w, h1, e5.tup (Same.tup e4 h2) hd4⟩) ⟨t2, rfl, e5.tup ht2 hd4⟩, by rw [hr, hb2], by rw [List.length_append, List.length_singleton, lB], fun j hj2 => ?_⟩
      by_cases hjl : j ≤ i
      · rw [List.getElem?_append_left (by omega)]; exact hj j hjl
      · rw [show j = i + 1 by omega, List.getElem?_append_right (by omega), lB, Nat.sub_self, hr, hb2]; rfl
    cases h1 : s.1 with
    | true =>
      rw [h1] at last
      walk_at "gx"
      refine Atr.df sf ha3 rfl ?_
      exact ⟨last (max 0 (s.2.2 + b.1 - many), min s.2.2 b.2) (by unfold rngF; rw [if_pos h1])⟩
    | false =>
      rw [h1] at last
      walk_at "gx"
      refine Atr.df sf ha3 rfl ?_
      exact ⟨last (max s.2.2 b.1, min many (s.2.2 + b.2)) (by unfold rngF; rw [if_neg (by rw [h1]; exact Bool.false_ne_true)])⟩
  · rintro σ H3 ⟨B, zs, b, c1, c2, c3, rfl, ex, hd3, hB, hb, lB, hj⟩
    have lys := hT.length
    walk_at "gx"
    exact q d B zs H3 (SameX.same e12 ex nd0) nd0 hd3 hB (by rw [lB, lys]) fun j hj2 => hj j (by omega)
end S
-- deps: Summary_bounds1 Sm Sl Tw
/-! ## the bounds hold -/
namespace S
open PySem PySem.Spec PyProof.Rows L2
theorem cnt_mono {f g : Int → Bool} (h : ∀ r, f r = true → g r = true) : ∀ k : Nat, cntF f k ≤ cntF g k
  | 0 => Int.le_refl _
  | k + 1 => by
    have ih := cnt_mono h k
    show cntF f k + (if f k = true then 1 else 0) ≤ cntF g k + (if g k = true then 1 else 0)
    by_cases hf : f k = true
    · rw [if_pos hf, if_pos (h _ hf)]; omega
    · rw [if_neg hf]
      by_cases hg : g k = true
      · rw [if_pos hg]; omega
      · rw [if_neg hg]; omega
theorem cnt_and_bd (f g : Int → Bool) (k : Nat) : cntF (fun r => f r && g r) k ≤ cntF f k ∧ cntF (fun r => f r && g r) k ≤ cntF g k ∧ cntF f k + cntF g k - k ≤ cntF (fun r => f r && g r) k := by
  have h := cnt_two f g k
  have e1 : cntF (fun r => rAnd (f r) (g r)) k = cntF (fun r => f r && g r) k := rfl
  have b := cnt_bd (fun r => rOr (f r) (g r)) k
  refine ⟨cnt_mono (fun r h => (Bool.and_eq_true_iff.mp h).1) k, cnt_mono (fun r h => (Bool.and_eq_true_iff.mp h).2) k, ?_⟩
  rw [← e1]; omega
theorem cnt_or_bd (f g : Int → Bool) (k : Nat) : cntF f k ≤ cntF (fun r => f r || g r) k ∧ cntF g k ≤ cntF (fun r => f r || g r) k ∧ cntF (fun r => f r || g r) k ≤ cntF f k + cntF g k := by
  have h := cnt_two f g k
  have e1 : cntF (fun r => rOr (f r) (g r)) k = cntF (fun r => f r || g r) k := rfl
  have b := cnt_bd (fun r => rAnd (f r) (g r)) k
  refine ⟨cnt_mono (fun r h => by simp [h]) k, cnt_mono (fun r h => by simp [h]) k, ?_⟩
  rw [← e1]; omega
/-- whether the step is flipped, what matches -/
def flpB (w : Int) (eq : Bool) (len j : Nat) : Bool := (bitI w j || !eq) == decide (j + 1 = len)
def mtB (w : Int) (eq : Bool) (len j : Nat) (b : Bool) : Bool := if flpB w eq len j = true then !b else b
/-- which bits pass, from place j up -/
def passL (w : Int) (eq : Bool) (len : Nat) : Nat → List Bool → Bool → Bool
  | _, [], acc => acc
  | j, b :: r, acc => passL w eq len (j + 1) r (if (bitI w j || eq) = true then acc && mtB w eq len j b else acc || mtB w eq len j b)
theorem rng_holds (n : Nat) (w : Int) (eq : Bool) (len : Nat) : ∀ (L : List (Int → Bool)) (j : Nat) (acc : Int → Bool) (b : Int × Int), b.1 ≤ cntF acc n → cntF acc n ≤ b.2 →
    ((stepsM w eq n len j (L.map fun f => cntF f n)).foldl (rngF n) b).1 ≤ cntF (fun row => passL w eq len j (L.map fun f => f row) (acc row)) n ∧
    cntF (fun row => passL w eq len j (L.map fun f => f row) (acc row)) n ≤ ((stepsM w eq n len j (L.map fun f => cntF f n)).foldl (rngF n) b).2
  | [], _, _, _, h1, h2 => ⟨h1, h2⟩
  | f :: L, j, acc, b, h1, h2 => by
    have hm : (if flpB w eq len j = true then (n : Int) - cntF f n else cntF f n) = cntF (fun row => mtB w eq len j (f row)) n := by
      cases hf : flpB w eq len j with
      | true =>
        have e : (fun row => mtB w eq len j (f row)) = fun row => !(f row) := by
          funext row; unfold mtB; rw [hf]; rfl
        rw [e, if_pos rfl]
        have := cnt_not f n; omega
      | false =>
        have e : (fun row => mtB w eq len j (f row)) = f := by
          funext row; unfold mtB; rw [hf]; rfl
        rw [e, if_neg Bool.false_ne_true]
    have b0 := cnt_bd acc n
    have bm := cnt_bd (fun row => mtB w eq len j (f row)) n
    have a3 := cnt_and_bd acc (fun row => mtB w eq len j (f row)) n
    have o3 := cnt_or_bd acc (fun row => mtB w eq len j (f row)) n
    have on := cnt_bd (fun row => acc row || mtB w eq len j (f row)) n
    have an := cnt_bd (fun row => acc row && mtB w eq len j (f row)) n
    show ((stepsM w eq n len (j + 1) (L.map fun f => cntF f n)).foldl (rngF n) (rngF n b (bitI w j || eq, flpB w eq len j, if flpB w eq len j = true then (n : Int) - cntF f n else cntF f n))).1 ≤
        cntF (fun row => passL w eq len (j + 1) (L.map fun f => f row) (if (bitI w j || eq) = true then acc row && mtB w eq len j (f row) else acc row || mtB w eq len j (f row))) n ∧
      cntF (fun row => passL w eq len (j + 1) (L.map fun f => f row) (if (bitI w j || eq) = true then acc row && mtB w eq len j (f row) else acc row || mtB w eq len j (f row))) n ≤
        ((stepsM w eq n len (j + 1) (L.map fun f => cntF f n)).foldl (rngF n) (rngF n b (bitI w j || eq, flpB w eq len j, if flpB w eq len j = true then (n : Int) - cntF f n else cntF f n))).2
    rw [hm]
    have ih := fun acc' b' => rng_holds n w eq len L (j + 1) acc' b'
    cases hq : (bitI w j || eq) with
    | true =>
      refine ih (fun row => acc row && mtB w eq len j (f row)) _ ?_ ?_
      · show max 0 (cntF (fun row => mtB w eq len j (f row)) n + b.1 - (n : Int)) ≤ cntF (fun row => acc row && mtB w eq len j (f row)) n
        omega
      · show cntF (fun row => acc row && mtB w eq len j (f row)) n ≤ min (cntF (fun row => mtB w eq len j (f row)) n) b.2
        omega
    | false =>
      refine ih (fun row => acc row || mtB w eq len j (f row)) _ ?_ ?_
      · show max (cntF (fun row => mtB w eq len j (f row)) n) b.1 ≤ cntF (fun row => acc row || mtB w eq len j (f row)) n
        omega
      · show cntF (fun row => acc row || mtB w eq len j (f row)) n ≤ min (n : Int) (cntF (fun row => mtB w eq len j (f row)) n + b.2)
        omega
/-! ### what passes -/
def topB (len j : Nat) (b : Bool) : Bool := if j + 1 = len then !b else b
theorem mt_top (w : Int) (eq : Bool) (len j : Nat) (b : Bool) : mtB w eq len j b = (topB len j b == (bitI w j || !eq)) := by
  unfold mtB flpB topB
  by_cases h : j + 1 = len
  · rw [if_pos h, decide_eq_true h]
    cases (bitI w j || !eq) <;> cases b <;> rfl
  · rw [if_neg h, decide_eq_false h]
    cases (bitI w j || !eq) <;> cases b <;> rfl
def uvL (len : Nat) : Nat → List Bool → Int
  | _, [] => 0
  | j, b :: r => b2n (topB len j b) + 2 * uvL len (j + 1) r
def cmpB (eq : Bool) (u w : Int) : Bool := if eq = true then decide (u = w) else decide (w ≤ u)
theorem emod_succ (w : Int) (j : Nat) : w % 2 ^ (j + 1) = w % 2 ^ j + 2 ^ j * b2n (bitI w j) := by
  have hP : (0 : Int) < 2 ^ j := Int.pow_pos (by decide)
  have e : (2 : Int) ^ (j + 1) = 2 ^ j * 2 := Int.pow_succ ..
  have e1 := Int.emod_add_mul_ediv w (2 ^ j)
  have hr := Int.emod_nonneg w (show (2 ^ j : Int) ≠ 0 by omega)
  have hr2 := Int.emod_lt_of_pos w hP
  have hb : b2n (bitI w j) = (w / 2 ^ j) % 2 := by
    unfold b2n bitI
    by_cases h : (w / 2 ^ j) % 2 = 1
    · simp [h]
    · have : (w / 2 ^ j) % 2 = 0 := by omega
      simp [this]
  rw [hb, e]
  generalize w / 2 ^ j = q at *
  have e2 : q = 2 * (q / 2) + q % 2 := by omega
  have hq0 : 0 ≤ q % 2 := by omega
  have hq1 : q % 2 < 2 := by omega
  generalize q % 2 = r at *
  generalize q / 2 = q2 at *
  subst e2
  have e3 : w = w % 2 ^ j + 2 ^ j * r + q2 * (2 ^ j * 2) := by
    have e4 : (2 ^ j : Int) * (2 * q2 + r) = q2 * (2 ^ j * 2) + 2 ^ j * r := by
      rw [Int.mul_add, ← Int.mul_assoc, Int.mul_comm (2 ^ j * 2) q2]
    rw [e4] at e1
    omega
  have hlt : w % 2 ^ j + 2 ^ j * r < 2 ^ j * 2 := by
    have : r = 0 ∨ r = 1 := by omega
    rcases this with rfl | rfl
    · rw [Int.mul_zero]; omega
    · rw [Int.mul_one]; omega
  have hge : 0 ≤ w % 2 ^ j + 2 ^ j * r := by
    have := Int.mul_nonneg (Int.le_of_lt hP) hq0
    omega
  conv => lhs; rw [e3]
  rw [Int.add_mul_emod_self_right, Int.emod_eq_of_lt hge hlt]
theorem pass_cmp (w : Int) (eq : Bool) (len : Nat) : ∀ (bs : List Bool) (j : Nat) (pv : Int) (acc : Bool), 0 ≤ pv → pv < 2 ^ j → acc = cmpB eq pv (w % 2 ^ j) → passL w eq len j bs acc = cmpB eq (pv + 2 ^ j * uvL len j bs) (w % 2 ^ (j + bs.length))
  | [], j, pv, acc, _, _, h => by
    show acc = cmpB eq (pv + 2 ^ j * 0) (w % 2 ^ (j + 0))
    rw [Int.mul_zero, Int.add_zero]; exact h
  | b :: r, j, pv, acc, h0, h1, h => by
    have hP : (0 : Int) < 2 ^ j := Int.pow_pos (by decide)
    have e : (2 : Int) ^ (j + 1) = 2 ^ j * 2 := Int.pow_succ ..
    have hw := emod_succ w j
    have hr := Int.emod_nonneg w (show (2 ^ j : Int) ≠ 0 by omega)
    have hr2 := Int.emod_lt_of_pos w hP
    show passL w eq len (j + 1) r (if (bitI w j || eq) = true then acc && mtB w eq len j b else acc || mtB w eq len j b) = cmpB eq (pv + 2 ^ j * (b2n (topB len j b) + 2 * uvL len (j + 1) r)) (w % 2 ^ (j + (r.length + 1)))
    have e5 : pv + 2 ^ j * (b2n (topB len j b) + 2 * uvL len (j + 1) r) = (pv + 2 ^ j * b2n (topB len j b)) + 2 ^ (j + 1) * uvL len (j + 1) r := by
      rw [Int.mul_add, ← Int.mul_assoc, ← e, Int.add_assoc]
    rw [e5, show j + (r.length + 1) = j + 1 + r.length by omega]
    have hb : b2n (topB len j b) = 0 ∨ b2n (topB len j b) = 1 := by cases topB len j b <;> simp [b2n]
    refine pass_cmp w eq len r (j + 1) _ _ ?_ ?_ ?_
    · rcases hb with h | h <;> rw [h] <;> omega
    · rw [e]; rcases hb with h | h <;> rw [h] <;> omega
    · rw [h, mt_top, hw]
      unfold cmpB
      cases eq with
      | true =>
        cases ht : topB len j b <;> cases hi : bitI w j
        · show (decide (pv = w % 2 ^ j) && true) = decide (pv + 2 ^ j * 0 = w % 2 ^ j + 2 ^ j * 0)
          rw [Bool.and_true]; exact decide_eq_decide.mpr (by omega)
        · show (decide (pv = w % 2 ^ j) && false) = decide (pv + 2 ^ j * 0 = w % 2 ^ j + 2 ^ j * 1)
          rw [Bool.and_false]; exact (decide_eq_false (by omega)).symm
        · show (decide (pv = w % 2 ^ j) && false) = decide (pv + 2 ^ j * 1 = w % 2 ^ j + 2 ^ j * 0)
          rw [Bool.and_false]; exact (decide_eq_false (by omega)).symm
        · show (decide (pv = w % 2 ^ j) && true) = decide (pv + 2 ^ j * 1 = w % 2 ^ j + 2 ^ j * 1)
          rw [Bool.and_true]; exact decide_eq_decide.mpr (by omega)
      | false =>
        cases ht : topB len j b <;> cases hi : bitI w j
        · show (decide (w % 2 ^ j ≤ pv) || false) = decide (w % 2 ^ j + 2 ^ j * 0 ≤ pv + 2 ^ j * 0)
          rw [Bool.or_false]; exact decide_eq_decide.mpr (by omega)
        · show (decide (w % 2 ^ j ≤ pv) && false) = decide (w % 2 ^ j + 2 ^ j * 1 ≤ pv + 2 ^ j * 0)
          rw [Bool.and_false]; exact (decide_eq_false (by omega)).symm
        · show (decide (w % 2 ^ j ≤ pv) || true) = decide (w % 2 ^ j + 2 ^ j * 0 ≤ pv + 2 ^ j * 1)
          rw [Bool.or_true]; exact (decide_eq_true (by omega)).symm
        · show (decide (w % 2 ^ j ≤ pv) && true) = decide (w % 2 ^ j + 2 ^ j * 1 ≤ pv + 2 ^ j * 1)
          rw [Bool.and_true]; exact decide_eq_decide.mpr (by omega)
theorem uv_twos (len : Nat) : ∀ (bs : List Bool) (j : Nat), bs ≠ [] → j + bs.length = len → uvL len j bs = twos bs + 2 ^ (bs.length - 1)
  | [], _, h, _ => absurd rfl h
  | [b], j, _, h => by
    have h : j + 1 = len := h
    show b2n (topB len j b) + 2 * 0 = -b2n b + 2 ^ 0
    unfold topB
    rw [if_pos h]
    cases b <;> rfl
  | b :: c :: r, j, _, h => by
    have h : j + (r.length + 1 + 1) = len := h
    have ih := uv_twos len (c :: r) (j + 1) (by simp) (by show j + 1 + (r.length + 1) = len; omega)
    show b2n (topB len j b) + 2 * uvL len (j + 1) (c :: r) = b2n b + 2 * twos (c :: r) + 2 ^ (r.length + 1)
    rw [ih]
    unfold topB
    rw [if_neg (by omega)]
    have e : (2 : Int) ^ (r.length + 1) = 2 ^ r.length * 2 := Int.pow_succ ..
    show b2n b + 2 * (twos (c :: r) + 2 ^ r.length) = _
    rw [e]; omega
/-- the rows that reach (equal) the number pass -/
theorem pass_num {bs : List Bool} {c : Int} {eq : Bool} (ne : bs ≠ []) (h0 : c < 2 ^ (bs.length - 1)) (h1 : eq = true → -(2 ^ (bs.length - 1)) ≤ c) : passL (max c (-(2 ^ (bs.length - 1))) + 2 ^ (bs.length - 1)) eq bs.length 0 bs true = if eq = true then decide (twos bs = c) else decide (c ≤ twos bs) := by
  have hl : bs.length ≠ 0 := fun z => ne (List.eq_nil_of_length_eq_zero z)
  have hP : (0 : Int) < 2 ^ (bs.length - 1) := Int.pow_pos (by decide)
  have e : (2 : Int) ^ bs.length = 2 ^ (bs.length - 1) * 2 := by
    have z : (2 : Int) ^ (bs.length - 1 + 1) = 2 ^ (bs.length - 1) * 2 := Int.pow_succ ..
    rw [show bs.length - 1 + 1 = bs.length by omega] at z
    exact z
  have hr := twos_rangeL ne
  have z := pass_cmp (max c (-(2 ^ (bs.length - 1))) + 2 ^ (bs.length - 1)) eq bs.length bs 0 0 true (Int.le_refl _) (by show (0 : Int) < 2 ^ 0; decide) (by
    have e0 : (max c (-(2 ^ (bs.length - 1))) + 2 ^ (bs.length - 1)) % 2 ^ 0 = 0 := Int.emod_one _
    rw [e0]; cases eq <;> rfl)
  rw [z, uv_twos bs.length bs 0 ne (Nat.zero_add _), Nat.zero_add]
  have em : (max c (-(2 ^ (bs.length - 1))) + 2 ^ (bs.length - 1)) % 2 ^ bs.length = max c (-(2 ^ (bs.length - 1))) + 2 ^ (bs.length - 1) := Int.emod_eq_of_lt (by omega) (by rw [e]; omega)
  rw [em]
  have e1 : (0 : Int) + 2 ^ 0 * (twos bs + 2 ^ (bs.length - 1)) = twos bs + 2 ^ (bs.length - 1) := by
    show 0 + 1 * _ = _
    rw [Int.one_mul, Int.zero_add]
  rw [e1]
  unfold cmpB
  cases eq with
  | true =>
    have := h1 rfl
    exact decide_eq_decide.mpr (by omega)
  | false => exact decide_eq_decide.mpr (by omega)
def boundsM (many : Int) (cs : List Int) (number : Int) (eq : Bool) : Int × Int := if outB cs number eq = true then (0, 0) else rngM many (stepsM (wantM cs number) eq many cs.length 0 cs)
/-- the bounds hold -/
theorem bounds_hold {n : Nat} {L : List (Int → Bool)} {c : Int} {eq : Bool} (ne : L ≠ []) : let p := fun row : Int => if eq = true then decide (twos (L.map fun f => f row) = c) else decide (c ≤ twos (L.map fun f => f row))
    (boundsM n (L.map fun f => cntF f n) c eq).1 ≤ cntF p n ∧ cntF p n ≤ (boundsM n (L.map fun f => cntF f n) c eq).2 := by
  intro p
  have lc : (L.map fun f => cntF f n).length = L.length := List.length_map ..
  unfold boundsM outB halfC
  rw [lc]
  have hne : ∀ row : Int, (L.map fun f => f row) ≠ [] := fun row z => ne (by simpa using z)
  have lb : ∀ row : Int, (L.map fun f => f row).length = L.length := fun row => List.length_map ..
  by_cases h1 : 2 ^ (L.length - 1) ≤ c
  · rw [decide_eq_true h1, Bool.true_or, if_pos rfl]
    have e : cntF p n = 0 := by
      have : p = fun _ => false := by
        funext row
        have hr := twos_rangeL (hne row)
        rw [lb row] at hr
        show (if eq = true then _ else _) = false
        cases eq with
        | true => exact decide_eq_false (by omega)
        | false => exact decide_eq_false (by omega)
      rw [this]
      exact cnt_none (fun _ => rfl) n
    rw [e]; exact ⟨Int.le_refl _, Int.le_refl _⟩
  rw [decide_eq_false h1, Bool.false_or]
  by_cases h2 : (eq && decide (c < -2 ^ (L.length - 1))) = true
  · rw [if_pos h2]
    obtain ⟨h3, h4⟩ := Bool.and_eq_true_iff.mp h2
    have h4 := of_decide_eq_true h4
    have e : cntF p n = 0 := by
      have : p = fun _ => false := by
        funext row
        have hr := twos_rangeL (hne row)
        rw [lb row] at hr
        show (if eq = true then _ else _) = false
        rw [h3]
        exact decide_eq_false (by omega)
      rw [this]
      exact cnt_none (fun _ => rfl) n
    rw [e]; exact ⟨Int.le_refl _, Int.le_refl _⟩
  rw [if_neg h2]
  have h5 : eq = true → -(2 ^ (L.length - 1)) ≤ c := fun he => by
    rw [he, Bool.true_and, decide_eq_true_eq] at h2
    omega
  have z := rng_holds n (wantM (L.map fun f => cntF f n) c) eq L.length L 0 (fun _ => true) (n, n) (by rw [cnt_all (fun _ => rfl) n]; exact Int.le_refl _) (by rw [cnt_all (fun _ => rfl) n]; exact Int.le_refl _)
  have ep : p = fun row => passL (wantM (L.map fun f => cntF f n) c) eq L.length 0 (L.map fun f => f row) true := by
    funext row
    have := pass_num (bs := L.map fun f => f row) (c := c) (eq := eq) (hne row) (by rw [lb row]; omega) (by rw [lb row]; exact h5)
    rw [lb row] at this
    unfold wantM halfC
    rw [lc, this]
  rw [ep]
  exact z
/-! ### the bounds don't rise -/
def okB (n : Int) (b : Int × Int) : Prop := 0 ≤ b.1 ∧ b.1 ≤ b.2 ∧ b.2 ≤ n
theorem rng_ok {n : Int} {b : Int × Int} {s : Stp} (h : okB n b) (h0 : 0 ≤ s.2.2) (h1 : s.2.2 ≤ n) : okB n (rngF n b s) := by
  obtain ⟨a1, a2, a3⟩ := h
  unfold rngF okB
  split
  · show 0 ≤ max 0 (s.2.2 + b.1 - n) ∧ max 0 (s.2.2 + b.1 - n) ≤ min s.2.2 b.2 ∧ min s.2.2 b.2 ≤ n
    omega
  · show 0 ≤ max s.2.2 b.1 ∧ max s.2.2 b.1 ≤ min n (s.2.2 + b.2) ∧ min n (s.2.2 + b.2) ≤ n
    omega
theorem steps_in {n w : Int} {eq : Bool} {len : Nat} : ∀ {cs : List Int} {j : Nat}, (∀ c ∈ cs, 0 ≤ c ∧ c ≤ n) → ∀ s ∈ stepsM w eq n len j cs, 0 ≤ s.2.2 ∧ s.2.2 ≤ n
  | [], _, _, s, hs => nomatch hs
  | c :: r, j, h, s, hs => by
    have hc := h c (List.mem_cons_self ..)
    rcases List.mem_cons.mp (show s ∈ _ :: stepsM w eq n len (j + 1) r from hs) with rfl | hs
    · show 0 ≤ (if ((bitI w j || !eq) == decide (j + 1 = len)) = true then n - c else c) ∧ (if ((bitI w j || !eq) == decide (j + 1 = len)) = true then n - c else c) ≤ n
      cases ((bitI w j || !eq) == decide (j + 1 = len)) with
      | true => rw [if_pos rfl]; omega
      | false => rw [if_neg Bool.false_ne_true]; omega
    · exact steps_in (fun d hd => h d (List.mem_cons_of_mem _ hd)) s hs
theorem rng_okL {n : Int} : ∀ (T : List Stp) (b : Int × Int), okB n b → (∀ s ∈ T, 0 ≤ s.2.2 ∧ s.2.2 ≤ n) → okB n (T.foldl (rngF n) b)
  | [], _, h, _ => h
  | s :: T, b, h, hs => rng_okL T _ (rng_ok h (hs s (List.mem_cons_self ..)).1 (hs s (List.mem_cons_self ..)).2) fun t ht => hs t (List.mem_cons_of_mem _ ht)
theorem bounds_ok {n : Int} {cs : List Int} {c : Int} {eq : Bool} (h : okC n cs) : okB n (boundsM n cs c eq) := by
  unfold boundsM
  split
  · exact ⟨Int.le_refl _, Int.le_refl _, h.1⟩
  · exact rng_okL _ _ ⟨h.1, Int.le_refl _, Int.le_refl _⟩ (steps_in h.2.2)
/-- one prefix of the places ahead of another: what more is wanted, the lower are the bounds -/
theorem rng_down {n : Int} {len : Nat} {w v : Int} : ∀ (cs : List Int), (∀ c ∈ cs, 0 ≤ c ∧ c ≤ n) → 0 ≤ n → ∀ k, k ≤ cs.length → w % 2 ^ k ≤ v % 2 ^ k →
    (((stepsM v false n len 0 cs).take k).foldl (rngF n) (n, n)).1 ≤ (((stepsM w false n len 0 cs).take k).foldl (rngF n) (n, n)).1 ∧ (((stepsM v false n len 0 cs).take k).foldl (rngF n) (n, n)).2 ≤ (((stepsM w false n len 0 cs).take k).foldl (rngF n) (n, n)).2
  | cs, h, n0, 0, _, _ => by
    rw [List.take_zero, List.take_zero]; exact ⟨Int.le_refl _, Int.le_refl _⟩
  | cs, h, n0, k + 1, hk, hwv => by
    have hP : (0 : Int) < 2 ^ k := Int.pow_pos (by decide)
    have r1 := Int.emod_nonneg w (show (2 ^ k : Int) ≠ 0 by omega)
    have r2 := Int.emod_lt_of_pos w hP
    have r3 := Int.emod_nonneg v (show (2 ^ k : Int) ≠ 0 by omega)
    have r4 := Int.emod_lt_of_pos v hP
    rw [emod_succ, emod_succ] at hwv
    have get : ∀ (x : Int), ∃ c, cs[k]? = some c ∧ (stepsM x false n len 0 cs)[k]? = some (bitI x k || false, (bitI x k || !false) == decide (k + 1 = len), if ((bitI x k || !false) == decide (k + 1 = len)) = true then n - c else c) := by
      intro x
      obtain ⟨c, hc⟩ : ∃ c, cs[k]? = some c := ⟨_, List.getElem?_eq_getElem (by omega)⟩
      refine ⟨c, hc, ?_⟩
      have tk : cs = cs.take k ++ c :: cs.drop (k + 1) := by
        obtain ⟨hlt, e⟩ := List.getElem?_eq_some_iff.mp hc
        rw [← e, ← List.drop_eq_getElem_cons hlt, List.take_append_drop]
      have lk : (cs.take k).length = k := by rw [List.length_take]; omega
      have app : ∀ (A B : List Int) (j : Nat), stepsM x false n len j (A ++ B) = stepsM x false n len j A ++ stepsM x false n len (j + A.length) B := by
        intro A
        induction A with
        | nil => intro B j; rfl
        | cons y A ih =>
          intro B j
          show _ :: stepsM x false n len (j + 1) (A ++ B) = _ :: (stepsM x false n len (j + 1) A ++ _)
          rw [ih, List.length_cons, show j + 1 + A.length = j + (A.length + 1) by omega]
      rw [tk, app, lk, List.getElem?_append_right (by rw [stepsM_len, lk]; exact Nat.le_refl _), stepsM_len, lk, Nat.sub_self, Nat.zero_add]
      rfl
    obtain ⟨c, hc, gw⟩ := get w
    obtain ⟨c', hc', gv⟩ := get v
    rw [hc] at hc'
    cases hc'
    have hcb := h c (List.mem_of_getElem? hc)
    have tkw : ∀ (x : Int) (s : Stp), (stepsM x false n len 0 cs)[k]? = some s → ((stepsM x false n len 0 cs).take (k + 1)).foldl (rngF n) (n, n) = rngF n (((stepsM x false n len 0 cs).take k).foldl (rngF n) (n, n)) s := fun x s hs => by
      rw [List.take_succ, hs, List.foldl_append]; rfl
    rw [tkw w _ gw, tkw v _ gv]
    have okw : okB n (((stepsM w false n len 0 cs).take k).foldl (rngF n) (n, n)) := rng_okL _ _ ⟨n0, Int.le_refl _, Int.le_refl _⟩ fun s hs => steps_in h s (List.mem_of_mem_take hs)
    have okv : okB n (((stepsM v false n len 0 cs).take k).foldl (rngF n) (n, n)) := rng_okL _ _ ⟨n0, Int.le_refl _, Int.le_refl _⟩ fun s hs => steps_in h s (List.mem_of_mem_take hs)
    have ih := rng_down (n := n) (len := len) (w := w) (v := v) cs h n0 k (by omega)
    generalize ((stepsM w false n len 0 cs).take k).foldl (rngF n) (n, n) = B at *
    generalize ((stepsM v false n len 0 cs).take k).foldl (rngF n) (n, n) = C at *
    obtain ⟨b1, b2, b3⟩ := okw
    obtain ⟨c1, c2, c3⟩ := okv
    rw [show (bitI w k || !false) = true by simp, show (bitI v k || !false) = true by simp, Bool.or_false, Bool.or_false]
    have hm : 0 ≤ (if (true == decide (k + 1 = len)) = true then n - c else c) ∧ (if (true == decide (k + 1 = len)) = true then n - c else c) ≤ n := by
      cases (true == decide (k + 1 = len)) with
      | true => rw [if_pos rfl]; omega
      | false => rw [if_neg Bool.false_ne_true]; omega
    generalize (if (true == decide (k + 1 = len)) = true then n - c else c) = m at *
    generalize (true == decide (k + 1 = len)) = fl at *
    unfold rngF
    cases hw : bitI w k <;> cases hv : bitI v k
    · rw [hw, hv] at hwv
      have hwv : w % 2 ^ k + 2 ^ k * 0 ≤ v % 2 ^ k + 2 ^ k * 0 := hwv
      have z := ih (by omega)
      show max m C.1 ≤ max m B.1 ∧ min n (m + C.2) ≤ min n (m + B.2)
      omega
    · show max 0 (m + C.1 - n) ≤ max m B.1 ∧ min m C.2 ≤ min n (m + B.2)
      omega
    · rw [hw, hv] at hwv
      have hwv : w % 2 ^ k + 2 ^ k * 1 ≤ v % 2 ^ k + 2 ^ k * 0 := hwv
      omega
    · rw [hw, hv] at hwv
      have hwv : w % 2 ^ k + 2 ^ k * 1 ≤ v % 2 ^ k + 2 ^ k * 1 := hwv
      have z := ih (by omega)
      show max 0 (m + C.1 - n) ≤ max 0 (m + B.1 - n) ∧ min m C.2 ≤ min m B.2
      omega
theorem pow_half {cs : List Int} (ne : cs ≠ []) : (2 : Int) ^ cs.length = halfC cs * 2 := by
  have hl : cs.length ≠ 0 := fun z => ne (List.eq_nil_of_length_eq_zero z)
  have z : (2 : Int) ^ (cs.length - 1 + 1) = 2 ^ (cs.length - 1) * 2 := Int.pow_succ ..
  rw [show cs.length - 1 + 1 = cs.length by omega] at z
  exact z
/-- neither bound rises -/
theorem bounds_down {n : Int} {cs : List Int} {c : Int} (h : okC n cs) : (boundsM n cs (c + 1) false).1 ≤ (boundsM n cs c false).1 ∧ (boundsM n cs (c + 1) false).2 ≤ (boundsM n cs c false).2 := by
  have hp : (0 : Int) < halfC cs := Int.pow_pos (by decide)
  have ph := pow_half h.2.1
  have okc := bounds_ok (c := c) (eq := false) h
  by_cases h1 : halfC cs ≤ c + 1
  · have e : boundsM n cs (c + 1) false = (0, 0) := by
      unfold boundsM outB
      rw [decide_eq_true h1, Bool.true_or, if_pos rfl]
    rw [e]
    obtain ⟨a, b, _⟩ := okc
    exact ⟨a, Int.le_trans a b⟩
  · have e1 : boundsM n cs (c + 1) false = rngM n (stepsM (wantM cs (c + 1)) false n cs.length 0 cs) := by
      unfold boundsM outB
      rw [decide_eq_false h1, Bool.false_or, Bool.false_and, if_neg Bool.false_ne_true]
    have e2 : boundsM n cs c false = rngM n (stepsM (wantM cs c) false n cs.length 0 cs) := by
      unfold boundsM outB
      rw [decide_eq_false (by omega), Bool.false_or, Bool.false_and, if_neg Bool.false_ne_true]
    rw [e1, e2]
    have w1 : wantM cs c % 2 ^ cs.length = wantM cs c := Int.emod_eq_of_lt (by unfold wantM; omega) (by unfold wantM; omega)
    have w2 : wantM cs (c + 1) % 2 ^ cs.length = wantM cs (c + 1) := Int.emod_eq_of_lt (by unfold wantM; omega) (by unfold wantM; omega)
    have z := rng_down (n := n) (len := cs.length) (w := wantM cs c) (v := wantM cs (c + 1)) cs h.2.2 h.1 cs.length (Nat.le_refl _) (by rw [w1, w2]; unfold wantM; omega)
    rw [List.take_of_length_le (by rw [stepsM_len]; exact Nat.le_refl _), List.take_of_length_le (by rw [stepsM_len]; exact Nat.le_refl _)] at z
    exact z
/-- all rows reach the least number -/
theorem bounds_low {n : Int} {cs : List Int} {c : Int} (h : okC n cs) (hc : c ≤ -halfC cs) : boundsM n cs c false = (n, n) := by
  have hp : (0 : Int) < halfC cs := Int.pow_pos (by decide)
  unfold boundsM outB
  rw [decide_eq_false (by omega), Bool.false_or, Bool.false_and, if_neg Bool.false_ne_true]
  have e : wantM cs c = 0 := by unfold wantM; omega
  rw [e]
  have key : ∀ (l : List Int) (j : Nat), (∀ d ∈ l, 0 ≤ d ∧ d ≤ n) → (stepsM 0 false n cs.length j l).foldl (rngF n) (n, n) = (n, n) := by
    intro l
    induction l with
    | nil => intro j _; rfl
    | cons d l ih =>
      intro j hl
      have hd := hl d (List.mem_cons_self ..)
      have b0 : bitI 0 j = false := by unfold bitI; rw [Int.zero_ediv]; rfl
      show (stepsM 0 false n cs.length (j + 1) l).foldl (rngF n) (rngF n (n, n) (bitI 0 j || false, (bitI 0 j || !false) == decide (j + 1 = cs.length), if ((bitI 0 j || !false) == decide (j + 1 = cs.length)) = true then n - d else d)) = (n, n)
      have e2 : rngF n (n, n) (bitI 0 j || false, (bitI 0 j || !false) == decide (j + 1 = cs.length), if ((bitI 0 j || !false) == decide (j + 1 = cs.length)) = true then n - d else d) = (n, n) := by
        unfold rngF
        rw [b0]
        have hm : 0 ≤ (if ((false || !false) == decide (j + 1 = cs.length)) = true then n - d else d) ∧ (if ((false || !false) == decide (j + 1 = cs.length)) = true then n - d else d) ≤ n := by
          cases ((false || !false) == decide (j + 1 = cs.length)) with
          | true => rw [if_pos rfl]; omega
          | false => rw [if_neg Bool.false_ne_true]; omega
        generalize (if ((false || !false) == decide (j + 1 = cs.length)) = true then n - d else d) = m at *
        show (max m n, min n (m + n)) = (n, n)
        rw [show max m n = n by omega, show min n (m + n) = n by omega]
      rw [e2]
      exact ih (j + 1) fun x hx => hl x (List.mem_cons_of_mem _ hx)
  exact key cs 0 h.2.2
end S
-- deps: SuM
/-! ## each number between the bounds occurs -/
namespace S
open PySem PySem.Spec PyProof.Rows L2
/-- the first t rows of p -/
def frs (p : Int → Bool) (t : Int) (row : Int) : Bool := p row && decide (cntF p row.toNat < t)
theorem passL_app (w : Int) (eq : Bool) (len : Nat) (b : Bool) : ∀ (l : List Bool) (j : Nat) (acc : Bool), passL w eq len j (l ++ [b]) acc = (if (bitI w (j + l.length) || eq) = true then passL w eq len j l acc && mtB w eq len (j + l.length) b else passL w eq len j l acc || mtB w eq len (j + l.length) b)
  | [], j, acc => rfl
  | x :: l, j, acc => by
    show passL w eq len (j + 1) (l ++ [b]) _ = if (bitI w (j + (l.length + 1)) || eq) = true then passL w eq len (j + 1) l _ && mtB w eq len (j + (l.length + 1)) b else passL w eq len (j + 1) l _ || mtB w eq len (j + (l.length + 1)) b
    rw [passL_app w eq len b l (j + 1), show j + 1 + l.length = j + (l.length + 1) by omega]
end S
-- deps: Bx Sm0 Sl
namespace S
/-! ## the first rows by their numbers: chosen, undecided, still wanted, places read -/
theorem rOr_t {a b : Bool} : rOr a b = true ↔ a = true ∨ b = true := by cases a <;> cases b <;> simp [rOr]
section
variable {bt : Nat → Int → Bool} {w p : Nat} {U0 c u : Int → Bool}
theorem cnt_or {f g : Int → Bool} (n : Nat) (h : ∀ r, f r = true → g r = false) : cntF (fun r => rOr (f r) (g r)) n = cntF f n + cntF g n := by
  have e := cnt_two f g n
  have z : cntF (fun r => rAnd (f r) (g r)) n = 0 := cnt_none (fun r => by
    cases hf : f r with
    | false => rfl
    | true => rw [h r hf]; rfl) n
  rw [z] at e
  omega
end
/-- the first k of u -/
def fstK (u : Int → Bool) (k : Int) (r : Int) : Bool := u r && decide (cntF u r.toNat < k)
theorem cnt_fstK (u : Int → Bool) {k : Int} (k0 : 0 ≤ k) : ∀ n : Nat, cntF (fstK u k) n = min k (cntF u n)
  | 0 => by show 0 = min k 0; omega
  | n + 1 => by
    have ih := cnt_fstK u k0 n
    have hb := cnt_bd u n
    show cntF (fstK u k) n + (if fstK u k (n : Int) = true then 1 else 0) = min k (cntF u n + (if u (n : Int) = true then 1 else 0))
    rw [ih]
    unfold fstK
    rw [Int.toNat_natCast]
    cases hu : u (n : Int) with
    | false => simp
    | true =>
      by_cases h : cntF u n < k
      · rw [decide_eq_true h]; simp; omega
      · rw [decide_eq_false h]; simp; omega
/-! ### ahead by bits, ahead by numbers -/
end S
-- deps: SuX Fst
namespace S
/-! ## an example column of a summary: rows chosen are [a, b) and [c, n) -/
structure Tri where
  a : Int
  b : Int
  c : Int
def cyT (t : Tri) (r : Int) : Bool := decide ((t.a ≤ r ∧ r < t.b) ∨ t.c ≤ r)
def okT3 (n : Int) (t : Tri) : Prop := 0 ≤ t.a ∧ t.a ≤ t.b ∧ t.b ≤ t.c ∧ t.c ≤ n
def cnT (n : Int) (t : Tri) : Int := (t.b - t.a) + (n - t.c)
/-- rows chosen below r -/
def bel (t : Tri) (r : Int) : Int := min (max (r - t.a) 0) (t.b - t.a) + max (r - t.c) 0
theorem cy_f {t : Tri} {r : Int} : cyT t r = true ↔ (t.a ≤ r ∧ r < t.b) ∨ t.c ≤ r := by unfold cyT; rw [decide_eq_true_iff]
theorem cnt_cy {n : Int} {t : Tri} (h : okT3 n t) : ∀ m : Nat, cntF (cyT t) m = bel t m
  | 0 => by
    obtain ⟨h1, h2, h3, h4⟩ := h
    show (0 : Int) = _
    unfold bel
    omega
  | m + 1 => by
    have ih := cnt_cy h m
    obtain ⟨h1, h2, h3, h4⟩ := h
    show cntF (cyT t) m + (if cyT t (m : Int) = true then 1 else 0) = _
    rw [ih]
    unfold bel
    by_cases g : cyT t (m : Int) = true
    · rw [if_pos g]
      have := cy_f.mp g
      omega
    · rw [if_neg g]
      have g2 : ¬ ((t.a ≤ (m : Int) ∧ (m : Int) < t.b) ∨ t.c ≤ (m : Int)) := fun z => g (cy_f.mpr z)
      omega
theorem cnt_re {n : Int} {t : Tri} (h : okT3 n t) (m : Nat) : cntF (fun r => rLess true (cyT t r)) m = m - bel t m := by
  have := cnt_not (cyT t) m
  have e : (fun r => rLess true (cyT t r)) = fun r => !(cyT t r) := by funext r; cases cyT t r <;> rfl
  rw [e, ← cnt_cy h m]
  omega
theorem bel_n {n : Int} {t : Tri} (h : okT3 n t) : bel t n = cnT n t := by
  obtain ⟨h1, h2, h3, h4⟩ := h
  unfold bel cnT
  omega
/-- rows that match -/
def mtF (ms : Bool) (n m : Int) (t : Tri) (r : Int) : Bool := if ms = true then rOr (cyT t r) (fstK (fun r => rLess true (cyT t r)) (m - cnT n t) r) else fstK (cyT t) m r
/-- rows chosen next -/
def chF (ms : Bool) (n lo hi : Int) (t : Tri) (r : Int) : Bool :=
  if ms = true then rOr (cyT t r) (rLess (rLess true (cyT t r)) (fstK (fun r => rLess true (cyT t r)) (n - cnT n t - (max lo (cnT n t) - cnT n t)) r))
  else rLess (cyT t r) (fstK (cyT t) (cnT n t - min hi (cnT n t)) r)
def nxT (ms : Bool) (n lo hi : Int) (t : Tri) : Tri :=
  if ms = true then (if t.a ≤ n - max lo (cnT n t) then ⟨t.a, t.b, t.b + (n - max lo (cnT n t)) - t.a⟩ else ⟨n - max lo (cnT n t), n - max lo (cnT n t), n - max lo (cnT n t)⟩)
  else (if cnT n t - min hi (cnT n t) ≤ t.b - t.a then ⟨t.a + (cnT n t - min hi (cnT n t)), t.b, t.c⟩ else ⟨t.c + (cnT n t - min hi (cnT n t)) - (t.b - t.a), t.c + (cnT n t - min hi (cnT n t)) - (t.b - t.a), t.c + (cnT n t - min hi (cnT n t)) - (t.b - t.a)⟩)
theorem fst_cy {n : Int} {t : Tri} (h : okT3 n t) {k r : Int} (r0 : 0 ≤ r) : fstK (cyT t) k r = true ↔ ((t.a ≤ r ∧ r < t.b) ∨ t.c ≤ r) ∧ bel t r < k := by
  unfold fstK
  rw [Bool.and_eq_true_iff, decide_eq_true_iff, cy_f, cnt_cy h, Int.toNat_of_nonneg r0]
theorem fst_re {n : Int} {t : Tri} (h : okT3 n t) {k r : Int} (r0 : 0 ≤ r) : fstK (fun r => rLess true (cyT t r)) k r = true ↔ ¬ ((t.a ≤ r ∧ r < t.b) ∨ t.c ≤ r) ∧ r - bel t r < k := by
  unfold fstK
  rw [Bool.and_eq_true_iff, decide_eq_true_iff, cnt_re h, Int.toNat_of_nonneg r0]
  have : rLess true (cyT t r) = true ↔ ¬ (cyT t r = true) := by cases cyT t r <;> decide
  rw [this, cy_f]
theorem rLess_iff {a b : Bool} : rLess a b = true ↔ a = true ∧ ¬ b = true := by cases a <;> cases b <;> decide
theorem rLess_1 {b : Bool} : rLess true b = true ↔ ¬ b = true := by cases b <;> decide
section
variable {ms : Bool} {n m lo hi : Int} {t : Tri}
theorem nx_ok (h : okT3 n t) (l0 : 0 ≤ lo) (lh : lo ≤ hi) (hn : hi ≤ n) (hr : let b := rngF n (lo, hi) (ms, false, m); b.1 ≤ cnT n t ∧ cnT n t ≤ b.2) : okT3 n (nxT ms n lo hi t) ∧ lo ≤ cnT n (nxT ms n lo hi t) ∧ cnT n (nxT ms n lo hi t) ≤ hi := by
  obtain ⟨h1, h2, h3, h4⟩ := h
  unfold rngF at hr
  unfold nxT
  cases ms with
  | true =>
    rw [if_pos rfl] at hr
    obtain ⟨r1, r2⟩ := hr
    have r1 : max 0 (m + lo - n) ≤ cnT n t := r1
    have r2 : cnT n t ≤ min m hi := r2
    rw [if_pos rfl]
    split
    · unfold okT3 cnT at *
      dsimp only at *
      omega
    · unfold okT3 cnT at *
      dsimp only at *
      omega
  | false =>
    rw [if_neg Bool.false_ne_true] at hr
    obtain ⟨r1, r2⟩ := hr
    have r1 : max m lo ≤ cnT n t := r1
    have r2 : cnT n t ≤ min n (m + hi) := r2
    rw [if_neg Bool.false_ne_true]
    split
    · unfold okT3 cnT at *
      dsimp only at *
      omega
    · unfold okT3 cnT at *
      dsimp only at *
      omega
theorem ch_nx (h : okT3 n t) (l0 : 0 ≤ lo) (lh : lo ≤ hi) (hn : hi ≤ n) (hr : let b := rngF n (lo, hi) (ms, false, m); b.1 ≤ cnT n t ∧ cnT n t ≤ b.2) {r : Int} (r0 : 0 ≤ r) (r1 : r < n) : chF ms n lo hi t r = cyT (nxT ms n lo hi t) r := by
  rw [Bool.eq_iff_iff]
  unfold chF nxT rngF at *
  cases ms with
  | true =>
    rw [if_pos rfl] at hr
    obtain ⟨q1, q2⟩ := hr
    have q1 : max 0 (m + lo - n) ≤ cnT n t := q1
    have q2 : cnT n t ≤ min m hi := q2
    rw [if_pos rfl, if_pos rfl, rOr_t, rLess_iff, rLess_1, cy_f, fst_re h r0]
    obtain ⟨h1, h2, h3, h4⟩ := h
    unfold bel
    split
    · rw [cy_f]
      unfold cnT at *
      dsimp only at *
      omega
    · rw [cy_f]
      unfold cnT at *
      dsimp only at *
      omega
  | false =>
    rw [if_neg Bool.false_ne_true] at hr
    obtain ⟨q1, q2⟩ := hr
    have q1 : max m lo ≤ cnT n t := q1
    have q2 : cnT n t ≤ min n (m + hi) := q2
    rw [if_neg Bool.false_ne_true, if_neg Bool.false_ne_true, rLess_iff, cy_f, fst_cy h r0]
    obtain ⟨h1, h2, h3, h4⟩ := h
    unfold bel
    split
    · rw [cy_f]
      unfold cnT at *
      dsimp only at *
      omega
    · rw [cy_f]
      unfold cnT at *
      dsimp only at *
      omega
/-- rows chosen are those that pass -/
theorem mt_ch (h : okT3 n t) (l0 : 0 ≤ lo) (lh : lo ≤ hi) (hn : hi ≤ n) (m0 : 0 ≤ m) (m1 : m ≤ n) (hr : let b := rngF n (lo, hi) (ms, false, m); b.1 ≤ cnT n t ∧ cnT n t ≤ b.2) {r : Int} (r0 : 0 ≤ r) (r1 : r < n) : cyT t r = if ms = true then cyT (nxT ms n lo hi t) r && mtF ms n m t r else cyT (nxT ms n lo hi t) r || mtF ms n m t r := by
  rw [← ch_nx h l0 lh hn hr r0 r1]
  rw [Bool.eq_iff_iff]
  unfold chF mtF rngF at *
  cases ms with
  | true =>
    rw [if_pos rfl] at hr
    obtain ⟨q1, q2⟩ := hr
    have q1 : max 0 (m + lo - n) ≤ cnT n t := q1
    have q2 : cnT n t ≤ min m hi := q2
    rw [if_pos rfl, if_pos rfl, if_pos rfl, Bool.and_eq_true_iff, rOr_t, rOr_t, rLess_iff, rLess_1, cy_f, fst_re h r0, fst_re h r0]
    obtain ⟨h1, h2, h3, h4⟩ := h
    unfold bel cnT at *
    dsimp only at *
    omega
  | false =>
    rw [if_neg Bool.false_ne_true] at hr
    obtain ⟨q1, q2⟩ := hr
    have q1 : max m lo ≤ cnT n t := q1
    have q2 : cnT n t ≤ min n (m + hi) := q2
    rw [if_neg Bool.false_ne_true, if_neg Bool.false_ne_true, if_neg Bool.false_ne_true, Bool.or_eq_true_iff, rLess_iff, cy_f, fst_cy h r0, fst_cy h r0]
    obtain ⟨h1, h2, h3, h4⟩ := h
    unfold bel cnT at *
    dsimp only at *
    omega
/-- where the rows that match change -/
def cutM (n m : Int) (t : Tri) : List Int := [t.a, t.b, t.c, m - cnT n t, m - cnT n t + t.b - t.a, t.a + m, t.c + m - (t.b - t.a)]
theorem mt_cut (h : okT3 n t) {r : Int} (r0 : 0 < r) (r1 : r < n) (hc : mtF ms n m t r ≠ mtF ms n m t (r - 1)) : r ∈ cutM n m t := by
  refine Classical.byContradiction fun no => hc ?_
  unfold cutM at no
  simp only [List.mem_cons, List.not_mem_nil, or_false, not_or] at no
  rw [Bool.eq_iff_iff]
  unfold mtF
  cases ms with
  | true =>
    rw [if_pos rfl, if_pos rfl, rOr_t, rOr_t, cy_f, cy_f, fst_re h (by omega), fst_re h (by omega)]
    obtain ⟨h1, h2, h3, h4⟩ := h
    unfold bel cnT at *
    omega
  | false =>
    rw [if_neg Bool.false_ne_true, if_neg Bool.false_ne_true, fst_cy h (by omega), fst_cy h (by omega)]
    obtain ⟨h1, h2, h3, h4⟩ := h
    unfold bel cnT at *
    omega
theorem mt_cnt (h : okT3 n t) (m0 : 0 ≤ m) (m1 : m ≤ n) (hr : let b := rngF n (lo, hi) (ms, false, m); b.1 ≤ cnT n t ∧ cnT n t ≤ b.2) : cntF (mtF ms n m t) n.toNat = m := by
  have hn : 0 ≤ n := by obtain ⟨h1, h2, h3, h4⟩ := h; omega
  have c1 := cnt_cy h n.toNat
  have c2 := cnt_re h n.toNat
  rw [Int.toNat_of_nonneg hn, bel_n h] at c1 c2
  unfold rngF at hr
  cases ms with
  | true =>
    rw [if_pos rfl] at hr
    obtain ⟨q1, q2⟩ := hr
    have q2 : cnT n t ≤ min m hi := q2
    have e : mtF true n m t = fun r => rOr (cyT t r) (fstK (fun r => rLess true (cyT t r)) (m - cnT n t) r) := by funext r; unfold mtF; rw [if_pos rfl]
    rw [e, cnt_or n.toNat fun r hr => by unfold fstK; show (rLess true (cyT t r) && _) = false; rw [hr]; rfl, c1, cnt_fstK _ (by omega), c2]
    omega
  | false =>
    rw [if_neg Bool.false_ne_true] at hr
    obtain ⟨q1, q2⟩ := hr
    have q1 : max m lo ≤ cnT n t := q1
    have e : mtF false n m t = fstK (cyT t) m := by funext r; unfold mtF; rw [if_neg Bool.false_ne_true]
    rw [e, cnt_fstK _ m0, c1]
    omega
end
end S
-- deps: Bld
namespace S
/-! ## the example column as a whole -/
theorem steps_get {w many : Int} {eq : Bool} {len : Nat} : ∀ {cs : List Int} {j i : Nat} {c : Int}, cs[i]? = some c → (stepsM w eq many len j cs)[i]? = some (bitI w (j + i) || eq, flpB w eq len (j + i), if flpB w eq len (j + i) = true then many - c else c)
  | [], _, _, _, h => by simp at h
  | d :: cs, j, 0, c, h => by
    rw [List.getElem?_cons_zero] at h
    cases h
    rfl
  | d :: cs, j, i + 1, c, h => by
    rw [List.getElem?_cons_succ] at h
    have := steps_get (w := w) (many := many) (eq := eq) (len := len) (j := j + 1) h
    show (stepsM w eq many len (j + 1) cs)[i]? = _
    rw [this, show j + 1 + i = j + (i + 1) by omega]
theorem mem_iff72 (z : Int) : ∀ L : List Int, L.Pairwise (· < ·) → (z ∈ L ↔ inB L z ≠ inB L (z - 1))
  | [], _ => by simp [inB]
  | x :: r, h => by
    obtain ⟨h1, h2⟩ := List.pairwise_cons.mp h
    rw [inB_cons, inB_cons, List.mem_cons]
    have ih := mem_iff72 z r h2
    by_cases e : z = x
    · subst e
      rw [if_pos (Int.le_refl _), if_neg (by omega), inB_before h1, inB_before fun w hw => by have := h1 w hw; omega]
      simp
    · by_cases g : x < z
      · rw [if_pos (by omega), if_pos (by omega)]
        constructor
        · rintro (a | a)
          · exact absurd a e
          · have := ih.mp a
            simpa using this
        · intro a
          exact .inr (ih.mpr (by simpa using a))
      · rw [if_neg (by omega), if_neg (by omega)]
        constructor
        · rintro (a | a)
          · exact absurd a e
          · exact ih.mp a
        · intro a
          exact .inr (ih.mpr a)
def rgN (n : Int) (T : List Stp) (j : Nat) : Int × Int := (T.take j).foldl (rngF n) (n, n)
theorem rgN_s {n : Int} {T : List Stp} {j : Nat} {s : Stp} (h : T[j]? = some s) : rgN n T (j + 1) = rngF n (rgN n T j) s := by
  unfold rgN
  rw [List.take_add_one, h, List.foldl_append]; rfl
def triN (n k0 : Int) (T : List Stp) : Nat → Tri
  | 0 => ⟨0, k0, n⟩
  | k + 1 => nxT (T.getD (T.length - 1 - k) (false, false, 0)).1 n (rgN n T (T.length - 1 - k)).1 (rgN n T (T.length - 1 - k)).2 (triN n k0 T k)
/-- the slice of place j -/
def slN (n k0 : Int) (T : List Stp) (j : Nat) (r : Int) : Bool :=
  if (T.getD j (false, false, 0)).2.1 = true then !(mtF (T.getD j (false, false, 0)).1 n (T.getD j (false, false, 0)).2.2 (triN n k0 T (T.length - 1 - j)) r) else mtF (T.getD j (false, false, 0)).1 n (T.getD j (false, false, 0)).2.2 (triN n k0 T (T.length - 1 - j)) r
structure OkB (n k0 : Int) (T : List Stp) : Prop where
  n0 : 0 ≤ n
  hT : ∀ s ∈ T, 0 ≤ s.2.2 ∧ s.2.2 ≤ n
  k1 : (rgN n T T.length).1 ≤ k0
  k2 : k0 ≤ (rgN n T T.length).2
section
variable {n k0 : Int} {T : List Stp}
theorem OkB.rg (h : OkB n k0 T) (j : Nat) : okB n (rgN n T j) := rng_okL _ _ ⟨h.n0, Int.le_refl _, Int.le_refl _⟩ fun s hs => h.hT s (List.mem_of_mem_take hs)
theorem OkB.tri (h : OkB n k0 T) : ∀ k, k ≤ T.length → okT3 n (triN n k0 T k) ∧ (rgN n T (T.length - k)).1 ≤ cnT n (triN n k0 T k) ∧ cnT n (triN n k0 T k) ≤ (rgN n T (T.length - k)).2
  | 0, _ => by
    obtain ⟨r1, r2, r3⟩ := h.rg T.length
    have k1 := h.k1
    have k2 := h.k2
    have n0 := h.n0
    rw [Nat.sub_zero]
    refine ⟨?_, ?_⟩
    · show 0 ≤ (0 : Int) ∧ 0 ≤ k0 ∧ k0 ≤ n ∧ n ≤ n
      omega
    · show _ ≤ k0 - 0 + (n - n) ∧ k0 - 0 + (n - n) ≤ _
      omega
  | k + 1, hk => by
    obtain ⟨h1, h2, h3⟩ := h.tri k (by omega)
    obtain ⟨s, hs⟩ : ∃ s, T[T.length - 1 - k]? = some s := ⟨_, List.getElem?_eq_getElem (by omega)⟩
    have hsm := h.hT s (List.mem_of_getElem? hs)
    obtain ⟨r1, r2, r3⟩ := h.rg (T.length - 1 - k)
    have rs := rgN_s (n := n) hs
    rw [show T.length - 1 - k + 1 = T.length - k by omega] at rs
    rw [rs] at h2 h3
    have eg : T.getD (T.length - 1 - k) (false, false, 0) = s := by rw [List.getD_eq_getElem?_getD, hs]; rfl
    have := nx_ok (ms := s.1) (n := n) (m := s.2.2) (lo := (rgN n T (T.length - 1 - k)).1) (hi := (rgN n T (T.length - 1 - k)).2) h1 r1 r2 r3 ⟨h2, h3⟩
    rw [show T.length - (k + 1) = T.length - 1 - k by omega]
    show okT3 n (nxT (T.getD (T.length - 1 - k) (false, false, 0)).1 n _ _ _) ∧ _ ≤ cnT n (nxT (T.getD (T.length - 1 - k) (false, false, 0)).1 n _ _ _) ∧ cnT n (nxT (T.getD (T.length - 1 - k) (false, false, 0)).1 n _ _ _) ≤ _
    rw [eg]
    exact this
/-- what stands at place j -/
theorem OkB.at (h : OkB n k0 T) {j : Nat} {s : Stp} (hs : T[j]? = some s) : okT3 n (triN n k0 T (T.length - 1 - j)) ∧ okB n (rgN n T j) ∧ 0 ≤ s.2.2 ∧ s.2.2 ≤ n ∧ (let b := rngF n ((rgN n T j).1, (rgN n T j).2) (s.1, false, s.2.2); b.1 ≤ cnT n (triN n k0 T (T.length - 1 - j)) ∧ cnT n (triN n k0 T (T.length - 1 - j)) ≤ b.2) ∧ triN n k0 T (T.length - j) = nxT s.1 n (rgN n T j).1 (rgN n T j).2 (triN n k0 T (T.length - 1 - j)) := by
  have hj := (List.getElem?_eq_some_iff.mp hs).1
  obtain ⟨h1, h2, h3⟩ := h.tri (T.length - 1 - j) (by omega)
  have hsm := h.hT s (List.mem_of_getElem? hs)
  have rs := rgN_s (n := n) hs
  rw [show T.length - (T.length - 1 - j) = j + 1 by omega, rs] at h2 h3
  refine ⟨h1, h.rg j, hsm.1, hsm.2, ⟨h2, h3⟩, ?_⟩
  have eg : T.getD j (false, false, 0) = s := by rw [List.getD_eq_getElem?_getD, hs]; rfl
  rw [show T.length - j = (T.length - 1 - j) + 1 by omega]
  show nxT (T.getD (T.length - 1 - (T.length - 1 - j)) (false, false, 0)).1 n (rgN n T (T.length - 1 - (T.length - 1 - j))).1 (rgN n T (T.length - 1 - (T.length - 1 - j))).2 _ = _
  rw [show T.length - 1 - (T.length - 1 - j) = j by omega, eg]
theorem slN_at {j : Nat} {s : Stp} (hs : T[j]? = some s) (r : Int) : slN n k0 T j r = if s.2.1 = true then !(mtF s.1 n s.2.2 (triN n k0 T (T.length - 1 - j)) r) else mtF s.1 n s.2.2 (triN n k0 T (T.length - 1 - j)) r := by
  have eg : T.getD j (false, false, 0) = s := by rw [List.getD_eq_getElem?_getD, hs]; rfl
  unfold slN
  rw [eg]
end
section
variable {n k0 w : Int} {eq : Bool} {cs : List Int}
theorem sl_cnt (h : OkB n k0 (stepsM w eq n cs.length 0 cs)) {j : Nat} {c : Int} (hc : cs[j]? = some c) : cntF (slN n k0 (stepsM w eq n cs.length 0 cs) j) n.toNat = c := by
  have hs := steps_get (w := w) (many := n) (eq := eq) (len := cs.length) (j := 0) hc
  obtain ⟨a1, a2, a3, a4, a5, a6⟩ := h.at hs
  have n0 := h.n0
  have mc := mt_cnt a1 a3 a4 a5
  cases hf : flpB w eq cs.length (0 + j) with
  | true =>
    rw [hf] at mc hs
    have e : slN n k0 (stepsM w eq n cs.length 0 cs) j = fun r => !(mtF (bitI w (0 + j) || eq) n (n - c) (triN n k0 (stepsM w eq n cs.length 0 cs) ((stepsM w eq n cs.length 0 cs).length - 1 - j)) r) := by
      funext r
      rw [slN_at hs]; rfl
    rw [e]
    have := cnt_not (mtF (bitI w (0 + j) || eq) n (n - c) (triN n k0 (stepsM w eq n cs.length 0 cs) ((stepsM w eq n cs.length 0 cs).length - 1 - j))) n.toNat
    have mc : cntF (mtF (bitI w (0 + j) || eq) n (n - c) (triN n k0 (stepsM w eq n cs.length 0 cs) ((stepsM w eq n cs.length 0 cs).length - 1 - j))) n.toNat = n - c := mc
    omega
  | false =>
    rw [hf] at mc hs
    have e : slN n k0 (stepsM w eq n cs.length 0 cs) j = fun r => (mtF (bitI w (0 + j) || eq) n c (triN n k0 (stepsM w eq n cs.length 0 cs) ((stepsM w eq n cs.length 0 cs).length - 1 - j)) r) := by
      funext r
      rw [slN_at hs]; rfl
    rw [e]
    exact mc
theorem sl_pass (h : OkB n k0 (stepsM w eq n cs.length 0 cs)) {r : Int} (r0 : 0 ≤ r) (r1 : r < n) : ∀ p, p ≤ cs.length → passL w eq cs.length 0 ((List.range p).map fun j => slN n k0 (stepsM w eq n cs.length 0 cs) j r) true = cyT (triN n k0 (stepsM w eq n cs.length 0 cs) (cs.length - p)) r
  | 0, _ => by
    have lT := stepsM_len w eq n cs.length cs 0
    obtain ⟨h1, h2, h3⟩ := h.tri cs.length (by omega)
    rw [lT, Nat.sub_self] at h2 h3
    have h2 : n ≤ cnT n (triN n k0 (stepsM w eq n cs.length 0 cs) cs.length) := h2
    rw [Nat.sub_zero]
    show true = _
    symm
    rw [cy_f]
    obtain ⟨g1, g2, g3, g4⟩ := h1
    unfold cnT at h2
    omega
  | p + 1, hp => by
    have ih := sl_pass h r0 r1 p (by omega)
    have lT := stepsM_len w eq n cs.length cs 0
    obtain ⟨c, hc⟩ : ∃ c, cs[p]? = some c := ⟨_, List.getElem?_eq_getElem (by omega)⟩
    have hs := steps_get (w := w) (many := n) (eq := eq) (len := cs.length) (j := 0) hc
    obtain ⟨a1, a2, a3, a4, a5, a6⟩ := h.at hs
    have mc := mt_ch a1 a2.1 a2.2.1 a2.2.2 a3 a4 a5 r0 r1
    rw [lT] at a6 mc
    rw [show cs.length - 1 - p = cs.length - (p + 1) by omega] at a6 mc
    rw [← a6] at mc
    rw [List.range_succ, List.map_append, List.map_singleton, passL_app, List.length_map, List.length_range, ih, mc]
    have em : mtB w eq cs.length (0 + p) (slN n k0 (stepsM w eq n cs.length 0 cs) p r) = mtF (bitI w (0 + p) || eq) n (if flpB w eq cs.length (0 + p) = true then n - c else c) (triN n k0 (stepsM w eq n cs.length 0 cs) (cs.length - (p + 1))) r := by
      rw [slN_at hs, lT, show cs.length - 1 - p = cs.length - (p + 1) by omega]
      unfold mtB
      cases flpB w eq cs.length (0 + p) with
      | true => rw [if_pos rfl, if_pos rfl, Bool.not_not]
      | false => rw [if_neg Bool.false_ne_true, if_neg Bool.false_ne_true]
    rw [em]
theorem sl_all (h : OkB n k0 (stepsM w eq n cs.length 0 cs)) {r : Int} (r0 : 0 ≤ r) (r1 : r < n) : passL w eq cs.length 0 ((List.range cs.length).map fun j => slN n k0 (stepsM w eq n cs.length 0 cs) j r) true = decide (r < k0) := by
  rw [sl_pass h r0 r1 cs.length (Nat.le_refl _), Nat.sub_self]
  show decide ((0 ≤ r ∧ r < k0) ∨ n ≤ r) = _
  exact decide_eq_decide.mpr (by omega)
theorem sl_cut (h : OkB n k0 (stepsM w eq n cs.length 0 cs)) {j : Nat} (hj : j < cs.length) : ∃ P : List Int, P.length = 7 ∧ ∀ r, 0 < r → r < n → slN n k0 (stepsM w eq n cs.length 0 cs) j r ≠ slN n k0 (stepsM w eq n cs.length 0 cs) j (r - 1) → r ∈ P := by
  obtain ⟨c, hc⟩ : ∃ c, cs[j]? = some c := ⟨_, List.getElem?_eq_getElem hj⟩
  have hs := steps_get (w := w) (many := n) (eq := eq) (len := cs.length) (j := 0) hc
  obtain ⟨a1, a2, a3, a4, a5, a6⟩ := h.at hs
  refine ⟨cutM n (if flpB w eq cs.length (0 + j) = true then n - c else c) (triN n k0 (stepsM w eq n cs.length 0 cs) ((stepsM w eq n cs.length 0 cs).length - 1 - j)), rfl, fun r r0 r1 hne => mt_cut (ms := (bitI w (0 + j) || eq)) a1 r0 r1 fun e => hne ?_⟩
  rw [slN_at hs, slN_at hs]
  dsimp only
  rw [e]
theorem cut_ends {n : Int} {es : List Int} {f : Int → Bool} {P : List Int} (hE : Ends n es) (hf : ∀ r, 0 ≤ r → r < n → inB es r = f r) (hP : ∀ r, 0 < r → r < n → f r ≠ f (r - 1) → r ∈ P) : ∀ e ∈ es, e ∈ 0 :: P := fun e he => by
  obtain ⟨e0, e1⟩ := hE.2 e he
  by_cases z : e = 0
  · rw [z]; exact List.mem_cons_self
  · refine List.mem_cons_of_mem _ (hP e (by omega) e1 ?_)
    rw [← hf e e0 e1, ← hf (e - 1) (by omega) (by omega)]
    exact (mem_iff72 e es hE.1).mp he
end
end S
namespace S
open PySem PySem.Spec PyProof.Rows L2
def t__law_rotated_b1_1 (K : Frag) (E : XK) : TS :=
    dIfS (dCmpT (oNe K) (dVar 6) (dVar 4)) (tSeq (tDrop (dML K mApp (dVar 3) (tCons (dVar 5) (tNil))))
    (tAsg (dVar 6) (gName 4))) (tNext)
def t__law_rotated_b1 (K : Frag) (E : XK) : TS :=
    tSeq (tAsg (dCall (sp__law_in K) (EW E) (tCons (dVar 0) (tCons (tOp oMod (tCB cInt (tCons (tOp oSub (dVar 5) (dVar 2)) (tNil))) (dVar 1)) (tNil)))) (gName 6))
    (stop (t__law_rotated_b1_1 K E))
def t__law_rotated_3 (K : Frag) (E : XK) : TS :=
    tRet (dVar 3)
def t__law_rotated_2 (K : Frag) (E : XK) : TS :=
    tSeq (dIfS (dCmpT oGt (dVar 1) (tC (.int 0))) (dFor (iSeq K (tCB (cSorted K) (tCons (tOp (oAdd K) (dLst (tCons (tC (.int 0)) (tCons (tOp oMod (tCB cInt (tCons (dVar 2) (tNil))) (dVar 1)) (tNil)))) (dLc (iSeq K (dVar 0)) (gName 7) (tYes) (tOp oMod (tCB cInt (tCons (tOp (oAdd K) (dVar 7) (dVar 2)) (tNil))) (dVar 1)) [7])) (tNil)))) (gName 5) (t__law_rotated_b1 K E)) (tNext))
    (stop (t__law_rotated_3 K E))
def t__law_rotated_1 (K : Frag) (E : XK) : TS :=
    tSeq (tAsg (tC (.bl false)) (gName 4))
    (stop (t__law_rotated_2 K E))
def t__law_rotated (K : Frag) (E : XK) : TS :=
    tSeq (tAsg (dLst (tNil)) (gName 3))
    (stop (t__law_rotated_1 K E))
end S
-- fn: _law_rotated
-- law: k35
-- deps: _law_in D1 Li Fstay Bld2 Bx
namespace S
open PySem PySem.Spec PyProof.Rows L2
theorem cnt_add35 (f : Int → Bool) (a : Nat) : ∀ b : Nat, cntF f (a + b) = cntF f a + cntF (fun r => f (r + a)) b
  | 0 => by show cntF f a = cntF f a + 0; omega
  | b + 1 => by
    have ih := cnt_add35 f a b
    show cntF f (a + b) + (if f ((a + b : Nat) : Int) = true then 1 else 0) = cntF f a + (cntF (fun r => f (r + a)) b + (if f ((b : Int) + a) = true then 1 else 0))
    rw [ih, show ((a + b : Nat) : Int) = (b : Int) + a by omega]
    omega
theorem rot_cnt (f : Int → Bool) {n s : Int} (hn : 0 < n) : cntF (fun r => f ((r - s) % n)) n.toNat = cntF f n.toNat := by
  have t0 := Int.emod_nonneg s (show n ≠ 0 by omega)
  have t1 := Int.emod_lt_of_pos s hn
  have e1 : ∀ r : Int, (r - s) % n = (r - s % n) % n := fun r => by
    rw [Int.sub_emod, Int.sub_emod r (s % n), Int.emod_emod_of_dvd s (Int.dvd_refl n)]
  simp only [e1]
  generalize s % n = t at *
  obtain ⟨a, rfl⟩ : ∃ a : Nat, t = a := ⟨t.toNat, by omega⟩
  obtain ⟨b, hb⟩ : ∃ b : Nat, n.toNat = a + b := ⟨n.toNat - a, by omega⟩
  rw [hb, cnt_add35, Nat.add_comm a b, cnt_add35 f b a]
  have h1 : cntF (fun r => f ((r - (a : Int)) % n)) a = cntF (fun r => f (r + b)) a := cnt_congr _ fun j hj => by
    show f (((j : Int) - a) % n) = f ((j : Int) + b)
    congr 1
    have : ((j : Int) - a) % n = ((j : Int) - a + n) % n := by rw [Int.add_emod_right]
    rw [this, Int.emod_eq_of_lt (by omega) (by omega)]
    omega
  have h2 : cntF (fun r => f ((r + (a : Int) - (a : Int)) % n)) b = cntF f b := cnt_congr _ fun j hj => by
    show f (((j : Int) + a - a) % n) = f j
    rw [show (j : Int) + a - a = j by omega, Int.emod_eq_of_lt (by omega) (by omega)]
  rw [h1, h2]
  omega
theorem inB_snoc35 (R : List Int) (x row : Int) : inB (R ++ [x]) row = if x ≤ row then !(inB R row) else inB R row := by
  unfold inB
  rw [List.foldl_append]; rfl
/-- the rows of the list turned round -/
abbrev rtF (es : List Int) (n s row : Int) : Bool := inB es ((row - s) % n)
theorem rt_step {es : List Int} {n s r : Int} (hE : Ends n es) (r0 : 0 < r) (r1 : r < n) (h : rtF es n s r ≠ rtF es n s (r - 1)) : r = s % n ∨ ∃ e ∈ es, r = (e + s) % n := by
  have hn : 0 < n := by omega
  have q0 := Int.emod_nonneg (r - s) (show n ≠ 0 by omega)
  have q1 := Int.emod_lt_of_pos (r - s) hn
  have er : (r - s + s) % n = r := by rw [show r - s + s = r by omega]; exact Int.emod_eq_of_lt (by omega) r1
  by_cases z : (r - s) % n = 0
  · left
    rw [Int.add_emod, z, Int.zero_add, Int.emod_emod_of_dvd s (Int.dvd_refl n)] at er
    exact er.symm
  · right
    have e1 : (r - 1 - s) % n = (r - s) % n - 1 := by
      rw [show r - 1 - s = (r - s) - 1 by omega, Int.sub_emod]
      have : (1 : Int) % n = 1 ∨ n = 1 := by
        by_cases h : n = 1
        · exact .inr h
        · exact .inl (Int.emod_eq_of_lt (by decide) (by omega))
      rcases this with h | h
      · rw [h, Int.emod_eq_of_lt (by omega) (by omega)]
      · omega
    unfold rtF at h
    rw [e1] at h
    refine ⟨_, (mem_iff72 _ es hE.1).mpr h, ?_⟩
    rw [Int.add_emod, Int.emod_emod_of_dvd (r - s) (Int.dvd_refl n), ← Int.add_emod]
    exact er.symm
structure RtI (es : List Int) (n s : Int) (xs R : List Int) (b : Bool) (i : Nat) : Prop where
  mem : ∀ z ∈ R, ∃ j, j < i ∧ xs[j]? = some z
  asc : R.Pairwise (· < ·)
  top : ∀ row, (∀ z ∈ R, z ≤ row) → inB R row = b
  at_ : ∀ j x, j < i → xs[j]? = some x → inB R x = rtF es n s x
  len : R.length ≤ i
theorem RtI.below {es : List Int} {n s : Int} {xs R : List Int} {b : Bool} {i : Nat} {x : Int} (h : RtI es n s xs R b i) (srt : xs.Pairwise (· ≤ ·)) (hx : xs[i]? = some x) : ∀ z ∈ R, z ≤ x := fun z hz => by
  obtain ⟨j, hj, e⟩ := h.mem z hz
  obtain ⟨j1, j2⟩ := List.getElem?_eq_some_iff.mp e
  obtain ⟨i1, i2⟩ := List.getElem?_eq_some_iff.mp hx
  have := List.pairwise_iff_getElem.mp srt j i j1 i1 hj
  rw [j2, i2] at this
  exact this
theorem RtI.stay {es : List Int} {n s : Int} {xs R : List Int} {b : Bool} {i : Nat} {x : Int} (h : RtI es n s xs R b i) (srt : xs.Pairwise (· ≤ ·)) (hx : xs[i]? = some x) (hb : rtF es n s x = b) : RtI es n s xs R b (i + 1) := by
  refine ⟨fun z hz => ?_, h.asc, h.top, fun j y hj hy => ?_, by have := h.len; omega⟩
  · obtain ⟨j, hj, e⟩ := h.mem z hz
    exact ⟨j, by omega, e⟩
  · by_cases e : j = i
    · subst e
      rw [hx] at hy; cases hy
      rw [h.top x (h.below srt hx), hb]
    · exact h.at_ j y (by omega) hy
theorem RtI.turn {es : List Int} {n s : Int} {xs R : List Int} {b : Bool} {i : Nat} {x : Int} (h : RtI es n s xs R b i) (srt : xs.Pairwise (· ≤ ·)) (hx : xs[i]? = some x) (hb : rtF es n s x ≠ b) : RtI es n s xs (R ++ [x]) (rtF es n s x) (i + 1) := by
  have hle := h.below srt hx
  have hxb := h.top x hle
  have ne : ∀ j, j < i → xs[j]? ≠ some x := fun j hj e => by
    have := h.at_ j x hj e
    rw [hxb] at this
    exact hb this.symm
  have hlt : ∀ z ∈ R, z < x := fun z hz => by
    have := hle z hz
    obtain ⟨j, hj, e⟩ := h.mem z hz
    have : z ≠ x := fun q => by subst q; exact ne j hj e
    omega
  have nb : (!b) = rtF es n s x := by cases b <;> cases hq : rtF es n s x <;> simp_all
  refine ⟨fun z hz => ?_, ?_, fun row hrow => ?_, fun j y hj hy => ?_, by rw [List.length_append, List.length_singleton]; have := h.len; omega⟩
  · rcases List.mem_append.mp hz with hz | hz
    · obtain ⟨j, hj, e⟩ := h.mem z hz
      exact ⟨j, by omega, e⟩
    · rw [List.mem_singleton.mp hz]
      exact ⟨i, by omega, hx⟩
  · refine List.pairwise_append.mpr ⟨h.asc, List.pairwise_singleton .., fun z hz y hy => ?_⟩
    rw [List.mem_singleton.mp hy]
    exact hlt z hz
  · rw [inB_snoc35, if_pos (hrow x (by simp)), h.top row fun z hz => hrow z (List.mem_append_left _ hz)]
    exact nb
  · rw [inB_snoc35]
    by_cases e : j = i
    · subst e
      rw [hx] at hy; cases hy
      rw [if_pos (Int.le_refl _), hxb]
      exact nb
    · have hj' : j < i := by omega
      obtain ⟨j1, j2⟩ := List.getElem?_eq_some_iff.mp hy
      obtain ⟨i1, i2⟩ := List.getElem?_eq_some_iff.mp hx
      have h1 := List.pairwise_iff_getElem.mp srt j i j1 i1 hj'
      rw [j2, i2] at h1
      have h2 : y ≠ x := fun q => by subst q; exact ne j hj' hy
      rw [if_neg (by omega)]
      exact h.at_ j y hj' hy
theorem RtI.end_ {es : List Int} {n s : Int} {xs R : List Int} {b : Bool} (h : RtI es n s xs R b xs.length) (hE : Ends n es) (h0 : (0 : Int) ∈ xs) (hs : s % n ∈ xs) (he : ∀ e ∈ es, (e + s) % n ∈ xs) (hr : ∀ x ∈ xs, 0 ≤ x ∧ x < n) : Ends n R ∧ ∀ row, 0 ≤ row → row < n → inB R row = rtF es n s row := by
  have all : ∀ x ∈ xs, inB R x = rtF es n s x := fun x hx => by
    obtain ⟨j, hj⟩ := List.mem_iff_getElem?.mp hx
    exact h.at_ j x (List.getElem?_eq_some_iff.mp hj).1 hj
  have hR : ∀ z ∈ R, z ∈ xs := fun z hz => by
    obtain ⟨j, _, e⟩ := h.mem z hz
    exact List.mem_of_getElem? e
  refine ⟨⟨h.asc, fun z hz => hr z (hR z hz)⟩, fun row r0 r1 => ?_⟩
  obtain ⟨m, rfl⟩ : ∃ m : Nat, row = m := ⟨row.toNat, by omega⟩
  clear r0
  induction m with
  | zero => exact all _ h0
  | succ m ih =>
    by_cases hm : ((m + 1 : Nat) : Int) ∈ xs
    · exact all _ hm
    · have ih := ih (by omega)
      have e1 : ((m + 1 : Nat) : Int) - 1 = (m : Int) := by omega
      have s1 : inB R ((m + 1 : Nat) : Int) = inB R (m : Int) := by
        refine Classical.byContradiction fun hne => hm (hR _ ((mem_iff72 _ R h.asc).mpr ?_))
        rw [e1]; exact hne
      have s2 : rtF es n s ((m + 1 : Nat) : Int) = rtF es n s (m : Int) := by
        refine Classical.byContradiction fun hne => ?_
        rw [← e1] at hne
        rcases rt_step hE (by omega) r1 hne with q | ⟨e, he1, q⟩
        · exact hm (q ▸ hs)
        · exact hm (q ▸ he e he1)
      rw [s1, s2, ih]
def sp__law_rotated (K : Frag) : Sp := fun vs H Q _ => ∃ (p : Addr) (n s : Int) (es : List Int), vs = [.ref p, .int n, .int s] ∧ H p = some (.lst (es.map V.int)) ∧ Ends n es ∧ es.length ≤ 1000 ∧ 0 ≤ n ∧ 0 ≤ s ∧
  ∀ d R H', Same H H' → H d = none → H' d = some (.lst (R.map V.int)) → Ends n R → R.length ≤ es.length + 2 → cntF (inB R) n.toNat = cntF (inB es) n.toNat → Q (.ref d) H'
theorem pure__law_rotated {K : Frag} (vs : List V) (H : Hp) (Q : VK) (E : XK) (h : sp__law_rotated K vs H Q E) : t__law_rotated K E { nx := fun _ H' => Q .non H', rt := Q } (start ["_law_ends_here", "_law_size_here", "_law_shift", "_law_rotated_here", "_law_bit", "_law_row", "_law_now", "_law_end"] vs) H := by
  obtain ⟨p, n, s, es, rfl, hp, hE, les, n0, s0, good⟩ := h
  walk_at "gx"
  refine ⟨fun d nd => ?_⟩
  have e1 := same_new (o := .lst ([] : List V)) nd
  have hd : upd H d (.lst ([] : List V)) d = some (.lst (([] : List Int).map V.int)) := upd_same
  generalize upd H d (.lst ([] : List V)) = H1 at *
  have hp1 := e1 _ _ hp
  have ret : ∀ (σ5 σ6 σ7 : Option V) (b : Bool) (R : List Int) (W : Hp), Same H W → W d = some (.lst (R.map V.int)) → Ends n R → R.length ≤ es.length + 2 → cntF (inB R) n.toNat = cntF (inB es) n.toNat → t__law_rotated_3 K E { nx := fun _ H' => Q .non H', rt := Q } [some (.ref p), some (.int n), some (.int s), some (.ref d), some (.bl b), σ5, σ6, σ7] W := fun σ5 σ6 σ7 b R W e h1 h2 h3 h4 => by
    walk_at "gx"
    exact good d R W e nd h1 h2 h3 h4
  refine ⟨?_⟩
  walk_at "gx"
  refine ifd (fun hn => ?_) (fun hn => ?_)
  · have hn : 0 < n := hn
    walk_at "gx"
    refine ⟨fun q1 nq1 => ?_⟩
    have e2 := same_new (o := .lst [V.int 0, .int (s % n)]) nq1
    have hq1 : upd H1 q1 (.lst [V.int 0, .int (s % n)]) q1 = some (.lst [.int 0, .int (s % n)]) := upd_same
    generalize upd H1 q1 (.lst [V.int 0, .int (s % n)]) = H2 at *
    have hp2 := e2 _ _ hp1
    walk_at "gx"
    refine lc_ints es (fun e => (e + s) % n) (fun _ => true) (.inl (SqL.of hp2)) (by omega) ?_ ?_
    · intro i X A B hi eX hA _
      refine ⟨rfl, ?_⟩
      unfold tYes
      walk_at "gx"
      exact hA _ (Same.refl _) rfl
    intro D H3 nD hD e3
    rw [List.filter_eq_self.mpr (fun _ _ => rfl)] at hD
    refine Cat.l (e3 _ _ hq1) hD (by rw [sizeLine_eq, List.length_map, List.length_map]; simp only [List.length_cons, List.length_nil]; omega) fun q2 nq2 => ?_
    have e4 := same_new (o := .lst ([V.int 0, .int (s % n)] ++ (es.map fun e => (e + s) % n).map V.int)) nq2
    have hq2 : upd H3 q2 (.lst ([V.int 0, .int (s % n)] ++ (es.map fun e => (e + s) % n).map V.int)) q2 = some (.lst (([0, s % n] ++ es.map fun e => (e + s) % n).map V.int)) := by rw [upd_same, List.map_append]; rfl
    generalize upd H3 q2 (.lst ([V.int 0, .int (s % n)] ++ (es.map fun e => (e + s) % n).map V.int)) = H4 at *
    walk_at "gx"
    refine ⟨⟨_, SqL.of hq2, fun xs q5 p5 s5 nq5 => ?_⟩⟩
    have e5 := same_new (o := .lst (xs.map V.int)) nq5
    have hq5 : upd H4 q5 (.lst (xs.map V.int)) q5 = some (.lst (xs.map V.int)) := upd_same
    generalize upd H4 q5 (.lst (xs.map V.int)) = H5 at *
    have e15 := ((e2.trans e3).trans e4).trans e5
    have hd5 := e15 _ _ hd
    have dq : d ≠ q5 := fun e => by
      have := (((e2.trans e3).trans e4) _ _ hd)
      rw [e, nq5] at this; cases this
    have mx : ∀ x, x ∈ xs ↔ x = 0 ∨ x = s % n ∨ ∃ e ∈ es, x = (e + s) % n := fun x => by
      rw [p5.mem_iff, List.mem_append, List.mem_map]
      simp only [List.mem_cons, List.not_mem_nil, or_false]
      constructor
      · rintro ((h | h) | ⟨e, he, h⟩)
        · exact .inl h
        · exact .inr (.inl h)
        · exact .inr (.inr ⟨e, he, h.symm⟩)
      · rintro (h | h | ⟨e, he, h⟩)
        · exact .inl (.inl h)
        · exact .inl (.inr h)
        · exact .inr ⟨e, he, h.symm⟩
    have lxs : xs.length = es.length + 2 := by
      rw [p5.length_eq, List.length_append, List.length_map]
      simp only [List.length_cons, List.length_nil]; omega
    refine for_lst (fun i σ W => ∃ (R : List Int) (b : Bool) (x5 x6 x7 : Option V), σ = [some (.ref p), some (.int n), some (.int s), some (.ref d), some (.bl b), x5, x6, x7] ∧ Same H W ∧ W d = some (.lst (R.map V.int)) ∧ W q5 = some (.lst (xs.map V.int)) ∧ RtI es n s xs R b i) hq5 ⟨[], false, none, none, none, rfl, e1.trans e15, hd5, hq5, fun z hz => (nomatch hz), .nil, fun _ _ => rfl, fun j x hj => absurd hj (Nat.not_lt_zero _), Nat.le_refl _⟩ (fun i σ W h => by obtain ⟨_, _, _, _, _, _, _, _, h, _⟩ := h; exact h) ?_ ?_
    · rintro i y σ W hy ⟨R, b, x5, x6, x7, rfl, eW, hdW, hqW, hI⟩
      rw [List.getElem?_map] at hy
      obtain ⟨x, hx, rfl⟩ := Option.map_eq_some_iff.mp hy
      have hpW := eW _ _ hp
      have lR : (R.map V.int).length < sizeLine := by
        have := hI.len
        have := (List.getElem?_eq_some_iff.mp hx).1
        rw [sizeLine_eq, List.length_map]; omega
      walk_at "gx"
      refine ⟨p, es, (x - s) % n, rfl, .inl (SqL.of hpW), ?_⟩
      refine ⟨?_⟩
      walk_at "gx"
      show bIf (!decide (rtF es n s x = b)) _ _
      refine ifn (fun hne => ?_) (fun he => ?_)
      · have ex : SameX d W (upd W d (.lst (R.map V.int ++ [.int x]))) := SameX.upd
        walk_at "gx"
        exact ⟨R ++ [x], _, _, _, _, rfl, Same.mut eW nd, by rw [List.map_append]; exact upd_same, ex _ _ hqW (Ne.symm dq), hI.turn s5 hx hne⟩
      · exact ⟨R, b, _, _, _, rfl, eW, hdW, hqW, hI.stay s5 hx he⟩
    · rintro σ W ⟨R, b, x5, x6, x7, rfl, eW, hdW, hqW, hI⟩
      rw [List.length_map] at hI
      obtain ⟨g1, g2⟩ := hI.end_ hE ((mx _).mpr (.inl rfl)) ((mx _).mpr (.inr (.inl rfl))) (fun e he => (mx _).mpr (.inr (.inr ⟨e, he, rfl⟩))) (fun x hx => by
        rcases (mx x).mp hx with rfl | rfl | ⟨e, he, rfl⟩
        · omega
        · exact ⟨Int.emod_nonneg _ (by omega), Int.emod_lt_of_pos _ hn⟩
        · exact ⟨Int.emod_nonneg _ (by omega), Int.emod_lt_of_pos _ hn⟩)
      refine ⟨ret _ _ _ b R W eW hdW g1 (by have := hI.len; omega) ?_⟩
      rw [← rot_cnt (inB es) (s := s) hn]
      exact cnt_congr _ fun j hj => g2 j (by omega) (by omega)
  · have hn0 : n = 0 := by omega
    refine ⟨ret _ _ _ false [] H1 e1 hd ⟨.nil, fun _ z => nomatch z⟩ (Nat.zero_le _) ?_⟩
    subst hn0; rfl
end S
-- deps: Lc Cx
/-! ## comprehensions over tuples that make data -/
namespace S
open PySem PySem.Spec PyProof.Rows L2
end S
-- deps: Lc D0 D1
/-! ## comprehensions of any kind over a sequence whose items are told by a relation -/
namespace S
open PySem PySem.Spec PyProof.Rows L2
theorem lcg_at {α β : Type} {R : α → β → Prop} : ∀ {as : List α} {bs : List β} {i : Nat} {b : β}, Paired R as bs → bs[i]? = some b → ∃ a, as[i]? = some a ∧ R a b
  | _, _, _, _, .nil, h => by simp at h
  | _, _, 0, _, .cons r _, h => by simp at h; subst h; exact ⟨_, rfl, r⟩
  | _, _, i + 1, _, .cons _ t, h => by
    rw [List.getElem?_cons_succ] at h
    obtain ⟨a, h1, h2⟩ := lcg_at t h
    exact ⟨a, by rw [List.getElem?_cons_succ]; exact h1, h2⟩
theorem lcg_to {α β : Type} {R : α → β → Prop} : ∀ {as : List α} {bs : List β} {i : Nat} {a : α}, Paired R as bs → as[i]? = some a → ∃ b, bs[i]? = some b ∧ R a b
  | _, _, _, _, .nil, h => by simp at h
  | _, _, 0, _, .cons r _, h => by simp at h; subst h; exact ⟨_, rfl, r⟩
  | _, _, i + 1, _, .cons _ t, h => by
    rw [List.getElem?_cons_succ] at h
    obtain ⟨a, h1, h2⟩ := lcg_to t h
    exact ⟨a, by rw [List.getElem?_cons_succ]; exact h1, h2⟩
theorem tkg_filter {α : Type} {cs : List α} {pr : α → Bool} {i : Nat} {c : α} (hc : cs[i]? = some c) : (cs.take (i + 1)).filter pr = (cs.take i).filter pr ++ (if pr c = true then [c] else []) := by
  rw [List.take_succ, hc, List.filter_append]
  congr 1
  show [c].filter pr = _
  by_cases e : pr c = true <;> simp [e]
theorem lc_gen {α : Type} {K : Frag} {p : Addr} {xs : List V} {g : TG} {tt : TT} {te : TE} {vs : List Nat} {σ : L2.St} {H1 : Hp} {Q : VK} (as : List α) (pr : α → Bool) (P : α → V → Prop) (R : Addr → α → V → Hp → Prop) (hx : SqA K H1 p xs) (hb : Paired P as xs) (hz : as.length < sizeLine)
    (mono : ∀ D a y H H' l, H D = some (.lst l) → R D a y H → SameX D H H' → R D a y H')
    (hs : ∀ (D : Addr) (l : List V) (a : α) (x : V) (H : Hp) (A : V → Hp → Prop) (B : Hp → Prop), H1 D = none → H D = some (.lst l) → a ∈ as → P a x → Same H1 H → (∀ y H', Same H H' → pr a = true → R D a y H' → A y H') → (∀ H', Same H H' → pr a = false → B H') →
      g x (wipe σ vs) H fun σ2 H2 => wipe σ2 vs = wipe σ vs ∧ tt σ2 H2 fun b H3 => if b = true then te σ2 H3 A else B H3)
    (hd : ∀ D ys H', H1 D = none → H' D = some (.lst ys) → Paired (fun a y => R D a y H') (as.filter pr) ys → Same H1 H' → Q (.ref D) H') :
    Walk K H1 p (Wr (LcGo g tt te vs σ Q)) := by
  have lz := hb.length
  refine lc_seq hx fun D hD => ⟨fun j H => ∃ ys, H D = some (.lst ys) ∧ Paired (fun a y => R D a y H) ((as.take j).filter pr) ys ∧ Same H1 H, ⟨[], upd_same, by rw [List.take_zero]; exact .nil, same_new hD⟩, fun i H _ ⟨_, _, _, e⟩ ys => ⟨e.seq, Same.tup e⟩, ?_, fun H ⟨ys, h1, h2, e⟩ => hd D ys H hD h1 (by rw [← lz, List.take_length] at h2; exact h2) e⟩
  rintro j x H hi ⟨ys, h1, h2, e⟩
  obtain ⟨a, hj, hP⟩ := lcg_at hb hi
  have hil : j < as.length := (List.getElem?_eq_some_iff.mp hj).1
  have hlen : ys.length ≤ j := by
    rw [← h2.length]
    exact Nat.le_trans (List.length_filter_le _ _) (by rw [List.length_take]; exact Nat.min_le_left _ _)
  refine hs D ys a x H _ _ hD h1 (List.mem_of_getElem? hj) hP e (fun y H' e2 hp r => ?_) fun H' e2 hp => ⟨ys, e2 _ _ h1, ?_, e.trans e2⟩
  · have si : SameX D H' (L2.upd H' D (.lst (ys ++ [y]))) := SameX.upd
    refine ⟨ys, e2 _ _ h1, by omega, ys ++ [y], upd_same, ?_, fun b o hb => ?_⟩
    · rw [tkg_filter hj, if_pos hp]
      exact Paired.snoc (Paired.mapP h2 fun a b r => mono _ _ _ _ _ _ h1 r (Same.thenX e2 si)) (mono _ _ _ _ _ _ (e2 _ _ h1) r si)
    · rw [upd_ne (ne_of_none hb hD)]
      exact e2 _ _ (e _ _ hb)
  · rw [tkg_filter hj, if_neg (by rw [hp]; exact Bool.false_ne_true), List.append_nil]
    exact Paired.mapP h2 fun a b r => mono _ _ _ _ _ _ h1 r (Same.x e2)
end S
namespace S
open PySem PySem.Spec PyProof.Rows L2
def t__law_at_index_b1_1 (K : Frag) (E : XK) : TS :=
    tAsg (tOp oSub (dVar 2) (tOp (oIx K) (dVar 3) (tC (.int 1)))) (gName 2)
def t__law_at_index_b1 (K : Frag) (E : XK) : TS :=
    tSeq (dIfS (dCmpT oLt (dVar 2) (tOp (oIx K) (dVar 3) (tC (.int 1)))) (tRet (tOp (oIx K) (dVar 3) (tC (.int 0)))) (tNext))
    (stop (t__law_at_index_b1_1 K E))
def t__law_at_index_2 (K : Frag) (E : XK) : TS :=
    tRet (tC .non)
def t__law_at_index_1 (K : Frag) (E : XK) : TS :=
    tSeq (dFor (iSeq K (tCB (cSortedT K) (tCons (dLc (iSeq K (dVar 0)) (gName 4) (tYes) (dTup K (tCons (tOp (oIx K) (dVar 4) (tC (.int 1))) (tCons (tOp (oIx K) (dVar 4) (tC (.int 0))) (tNil)))) [4]) (tNil)))) (gName 3) (t__law_at_index_b1 K E))
    (stop (t__law_at_index_2 K E))
def t__law_at_index (K : Frag) (E : XK) : TS :=
    tSeq (tAsg (dVar 1) (gName 2))
    (stop (t__law_at_index_1 K E))
end S
-- fn: _law_at_index
-- law: k34
-- sortT: yes
-- deps: Lp Lcg Fstay D1 Summary_bounds1
namespace S
open PySem PySem.Spec PyProof.Rows L2
/-- sums of lengths of the values chosen -/
def sZ (q : Int → Bool) : List (Int × Int) → Int
  | [] => 0
  | z :: Z => (if q z.2 = true then z.1 else 0) + sZ q Z
theorem sZ_flt (q : Int → Bool) : ∀ Z : List (Int × Int), ((Z.filter fun z => q z.2).map (·.1)).sum = sZ q Z
  | [] => rfl
  | z :: Z => by
    have ih := sZ_flt q Z
    show _ = (if q z.2 = true then z.1 else 0) + sZ q Z
    by_cases g : q z.2 = true
    · rw [List.filter_cons_of_pos (p := fun z : Int × Int => q z.2) g, List.map_cons, List.sum_cons, ih, if_pos g]
    · rw [List.filter_cons_of_neg (p := fun z : Int × Int => q z.2) g, ih, if_neg g]; omega
/-- v is the value of index k -/
def AtZ (Z : List (Int × Int)) (k v : Int) : Prop := sZ (fun u => decide (u < v)) Z ≤ k ∧ k < sZ (fun u => decide (u ≤ v)) Z
def sp__law_at_index (K : Frag) : Sp := fun vs H Q _ => ∃ (p : Addr) (k : Int) (Z : List (Int × Int)) (ys : List V), vs = [.ref p, .int k] ∧ H p = some (.lst ys) ∧ Bnds K H Z ys ∧ Z.length ≤ 1000001 ∧ (∀ z ∈ Z, 0 ≤ z.1) ∧ 0 ≤ k ∧ k < (Z.map (·.1)).sum ∧
  ∀ v H', Same H H' → AtZ Z k v → Q (.int v) H'
theorem sZ_perm {q : Int → Bool} {Z W : List (Int × Int)} (h : Z.Perm W) : sZ q Z = sZ q W := by
  induction h with
  | nil => rfl
  | cons x _ ih => show _ + _ = _ + _; rw [ih]
  | swap x y l => show _ + (_ + _) = _ + (_ + _); omega
  | trans _ _ i1 i2 => rw [i1, i2]
theorem sZ_app {q : Int → Bool} : ∀ (A B : List (Int × Int)), sZ q (A ++ B) = sZ q A + sZ q B
  | [], B => by show sZ q B = 0 + sZ q B; omega
  | z :: A, B => by
    have ih := sZ_app (q := q) A B
    show _ + sZ q (A ++ B) = (_ + sZ q A) + sZ q B
    rw [ih]; omega
theorem sZ_nn {q : Int → Bool} : ∀ {Z : List (Int × Int)}, (∀ z ∈ Z, 0 ≤ z.1) → 0 ≤ sZ q Z
  | [], _ => Int.le_refl _
  | z :: Z, h => by
    have ih := sZ_nn (q := q) (Z := Z) fun y hy => h y (List.mem_cons_of_mem _ hy)
    have hz := h z List.mem_cons_self
    show 0 ≤ (if q z.2 = true then z.1 else 0) + sZ q Z
    split <;> omega
theorem sZ_all {q : Int → Bool} : ∀ {Z : List (Int × Int)}, (∀ z ∈ Z, q z.2 = true) → sZ q Z = (Z.map (·.1)).sum
  | [], _ => rfl
  | z :: Z, h => by
    have ih := sZ_all (q := q) (Z := Z) fun y hy => h y (List.mem_cons_of_mem _ hy)
    show (if q z.2 = true then z.1 else 0) + sZ q Z = _
    rw [if_pos (h z List.mem_cons_self), ih, List.map_cons, List.sum_cons]
theorem sZ_none {q : Int → Bool} : ∀ {Z : List (Int × Int)}, (∀ z ∈ Z, q z.2 = false) → sZ q Z = 0
  | [], _ => rfl
  | z :: Z, h => by
    have ih := sZ_none (q := q) (Z := Z) fun y hy => h y (List.mem_cons_of_mem _ hy)
    show (if q z.2 = true then z.1 else 0) + sZ q Z = _
    rw [h z List.mem_cons_self, if_neg Bool.false_ne_true, ih]; rfl
theorem sZ_le {q : Int → Bool} : ∀ {Z : List (Int × Int)}, (∀ z ∈ Z, 0 ≤ z.1) → sZ q Z ≤ (Z.map (·.1)).sum
  | [], _ => Int.le_refl _
  | z :: Z, h => by
    have ih := sZ_le (q := q) (Z := Z) fun y hy => h y (List.mem_cons_of_mem _ hy)
    have hz := h z List.mem_cons_self
    show (if q z.2 = true then z.1 else 0) + sZ q Z ≤ _
    rw [List.map_cons, List.sum_cons]
    split <;> omega
/-- the first value whose lengths reach beyond k -/
theorem at_fst {A B : List (Int × Int)} {z : Int × Int} {k : Int} (srt : (A ++ z :: B).Pairwise fun a b => a.2 ≤ b.2) (nn : ∀ y ∈ A ++ z :: B, 0 ≤ y.1) (h1 : ∀ i, i ≤ A.length → ((A.take i).map (·.1)).sum ≤ k) (h2 : k < (A.map (·.1)).sum + z.1) : AtZ (A ++ z :: B) k z.2 := by
  obtain ⟨s1, s2, s3⟩ := List.pairwise_append.mp srt
  obtain ⟨s4, s5⟩ := List.pairwise_cons.mp s2
  constructor
  · have b0 : sZ (fun u => decide (u < z.2)) (z :: B) = 0 := sZ_none fun y hy => by
      rcases List.mem_cons.mp hy with rfl | hy
      · exact decide_eq_false (Int.lt_irrefl _)
      · have := s4 y hy; exact decide_eq_false (by omega)
    rw [sZ_app, b0, Int.add_zero]
    have : sZ (fun u => decide (u < z.2)) A ≤ (A.map (·.1)).sum := sZ_le fun y hy => nn y (List.mem_append_left _ hy)
    have h3 := h1 A.length (Nat.le_refl _)
    rw [List.take_length] at h3
    omega
  · rw [sZ_app]
    have eA : sZ (fun u => decide (u ≤ z.2)) A = (A.map (·.1)).sum := sZ_all fun y hy => decide_eq_true (s3 y hy z List.mem_cons_self)
    have eB : sZ (fun u => decide (u ≤ z.2)) (z :: B) = z.1 + sZ (fun u => decide (u ≤ z.2)) B := by
      show (if decide (z.2 ≤ z.2) = true then z.1 else 0) + _ = _
      rw [if_pos (decide_eq_true (Int.le_refl _))]
    have := sZ_nn (q := fun u => decide (u ≤ z.2)) (Z := B) fun y hy => nn y (List.mem_append_right _ (List.mem_cons_of_mem _ hy))
    omega
theorem le_fst34 {a b r s : Int} (h : ([a, r] : List Int) ≤ [b, s]) : a ≤ b := by
  rw [List.cons_le_cons_iff] at h
  rcases h with h | ⟨h, _⟩ <;> omega
theorem rw_of34 {K : Frag} {H : Hp} : ∀ {Z : List (Int × Int)} {ys : List V}, Paired (fun (z : Int × Int) y => ∃ t, y = .ref t ∧ SqT K H t [.int z.2, .int z.1]) Z ys → ∃ bs : List Rw, bs.map (·.1) = ys ∧ bs.map (·.2) = Z.map (fun z => [z.2, z.1]) ∧ ∀ b ∈ bs, b.2 ≠ [] ∧ ∃ t, b.1 = .ref t ∧ SqT K H t (b.2.map V.int)
  | _, _, .nil => ⟨[], rfl, rfl, fun _ z => nomatch z⟩
  | _, _, .cons (a := z) (b := y) h t => by
    obtain ⟨a, rfl, ha⟩ := h
    obtain ⟨bs, h1, h2, h3⟩ := rw_of34 t
    refine ⟨(.ref a, [z.2, z.1]) :: bs, by rw [List.map_cons, h1], by rw [List.map_cons, h2, List.map_cons], fun b hb => ?_⟩
    rcases List.mem_cons.mp hb with rfl | hb
    · exact ⟨by simp, a, rfl, ha⟩
    · exact h3 b hb
theorem pure__law_at_index {K : Frag} (vs : List V) (H : Hp) (Q : VK) (E : XK) (h : sp__law_at_index K vs H Q E) : t__law_at_index K E { nx := fun _ H' => Q .non H', rt := Q } (start ["_law_stretches", "_law_k", "_law_left", "_law_stretch", "_law_part"] vs) H := by
  obtain ⟨p, k, Z, ys, rfl, hp, hB, lZ, nn, k0, k1, good⟩ := h
  walk_at "gx"
  refine lc_gen Z (fun _ => true) (fun z y => ∃ t, y = .ref t ∧ SqT K H t [.int z.1, .int z.2]) (fun _ z y W => ∃ t, y = .ref t ∧ SqT K W t [.int z.2, .int z.1]) (.inl (SqL.of hp)) hB (by rw [sizeLine_eq]; omega) ?_ ?_ ?_
  · rintro D z y W W' l hD ⟨t, rfl, ht⟩ e
    exact ⟨t, rfl, e.tup ht hD⟩
  · rintro D l z y W A B nD hD hz ⟨t, rfl, ht⟩ eW hA _
    have htW := Same.tup eW ht
    refine ⟨rfl, ?_⟩
    unfold tYes
    walk_at "gx"
    exact ⟨fun t2 W2 e2 ht2 => hA _ _ e2 rfl ⟨t2, rfl, ht2⟩⟩
  · intro D zs W nD hD hP eW
    rw [List.filter_eq_self.mpr (fun _ _ => rfl)] at hP
    obtain ⟨bs, hb1, hb2, hb3⟩ := rw_of34 hP
    have lzs : zs.length = Z.length := (Paired.length hP).symm
    have lbs : bs.length = Z.length := by rw [← lzs, ← hb1, List.length_map]
    refine ⟨.inr ⟨bs, by rw [hb1]; exact SqL.of hD, hb3, fun cs' q5 p5 s5 nq5 => ?_⟩⟩
    have e5 := same_new (o := .lst (cs'.map (·.1))) nq5
    have hq5 : upd W q5 (.lst (cs'.map (·.1))) q5 = some (.lst (cs'.map (·.1))) := upd_same
    generalize upd W q5 (.lst (cs'.map (·.1))) = W3 at *
    have lcs : cs'.length = Z.length := by rw [p5.length_eq, lbs]
    have hrw : ∀ b ∈ cs', ∃ z ∈ Z, b.2 = [z.2, z.1] := fun b hb => by
      have : b.2 ∈ bs.map (·.2) := List.mem_map.mpr ⟨b, p5.mem_iff.mp hb, rfl⟩
      rw [hb2] at this
      obtain ⟨z, hz, e⟩ := List.mem_map.mp this
      exact ⟨z, hz, e.symm⟩
    obtain ⟨Z', hZ'⟩ : ∃ Z', Z' = cs'.map (fun b => ((b.2.getD 1 0, b.2.getD 0 0) : Int × Int)) := ⟨_, rfl⟩
    have pZ : Z'.Perm Z := by
      have h1 := (p5.map (·.2)).map (fun l : List Int => ((l.getD 1 0, l.getD 0 0) : Int × Int))
      rw [hb2, List.map_map, List.map_map] at h1
      have e1 : ((fun l : List Int => ((l.getD 1 0, l.getD 0 0) : Int × Int)) ∘ fun z : Int × Int => [z.2, z.1]) = id := rfl
      rw [e1, List.map_id] at h1
      rw [hZ']
      exact h1
    have sZ' : Z'.Pairwise fun a b => a.2 ≤ b.2 := by
      rw [hZ', List.pairwise_map]
      refine (List.Pairwise.imp_of_mem (fun {a b} ha hb h => ?_) s5)
      obtain ⟨z, _, ea⟩ := hrw a ha
      obtain ⟨y, _, eb⟩ := hrw b hb
      rw [ea, eb] at h ⊢
      exact le_fst34 h
    have nn' : ∀ y ∈ Z', 0 ≤ y.1 := fun y hy => nn y (pZ.mem_iff.mp hy)
    refine for_seq0 (H0 := W3) (fun i σ Y => Y = W3 ∧ ∃ x3 : Option V, σ = [some (.ref p), some (.int k), some (.int (k - ((Z'.take i).map (·.1)).sum)), x3, none] ∧ ∀ j, j ≤ i → ((Z'.take j).map (·.1)).sum ≤ k) (.inl (SqL.of hq5)) (Same.refl _) ⟨rfl, none, by rw [List.take_zero, List.map_nil, List.sum_nil, Int.sub_zero]; rfl, fun j hj => by rw [show j = 0 by omega, List.take_zero]; exact k0⟩ (fun _ _ _ h => by rw [h.1]; exact Same.refl _) ?_ ?_
    · rintro i y σ Y hy ⟨rfl, x3, rfl, hpre⟩
      rw [List.getElem?_map] at hy
      obtain ⟨b, hb, rfl⟩ := Option.map_eq_some_iff.mp hy
      obtain ⟨z, hz, eb⟩ := hrw b (List.mem_of_getElem? hb)
      obtain ⟨_, t, ea, ht⟩ := hb3 b (p5.mem_iff.mp (List.mem_of_getElem? hb))
      rw [eb] at ht
      have ht3 : SqT K Y t [.int z.2, .int z.1] := Same.tup e5 ht
      have gz : Z'[i]? = some z := by rw [hZ', List.getElem?_map, hb, Option.map_some, eb]; rfl
      have il := (List.getElem?_eq_some_iff.mp gz).1
      have split : Z' = Z'.take i ++ z :: Z'.drop (i + 1) := by
        have := (List.take_append_drop i Z').symm
        rw [List.drop_eq_getElem_cons il] at this
        rw [(List.getElem?_eq_some_iff.mp gz).2] at this
        exact this
      have tk : ((Z'.take (i + 1)).map (·.1)).sum = ((Z'.take i).map (·.1)).sum + z.1 := by
        rw [List.take_add_one, gz, List.map_append, List.sum_append]
        show _ + (z.1 + 0) = _
        omega
      rw [ea]
      walk_at "gx"
      refine ifd (fun h1 => ?_) (fun h1 => ?_)
      · walk_at "gx"
        refine good z.2 Y ((eW.trans e5)) ?_
        have := at_fst (A := Z'.take i) (B := Z'.drop (i + 1)) (z := z) (k := k) (by rw [← split]; exact sZ') (by rw [← split]; exact nn') (fun j hj => by
          rw [List.length_take] at hj
          rw [List.take_take, show min j i = j by omega]
          exact hpre j (by omega)) (by omega)
        rw [← split] at this
        obtain ⟨g1, g2⟩ := this
        exact ⟨by rw [← sZ_perm pZ]; exact g1, by rw [← sZ_perm pZ]; exact g2⟩
      · refine ⟨?_⟩
        walk_at "gx"
        refine ⟨rfl, some (.ref t), ?_, fun j hj => ?_⟩
        · rw [tk, show k - (((Z'.take i).map (·.1)).sum + z.1) = k - ((Z'.take i).map (·.1)).sum - z.1 by omega]; rfl
        · by_cases hji : j ≤ i
          · exact hpre j hji
          · obtain rfl : j = i + 1 := by omega
            rw [tk]; omega
    · rintro σ Y ⟨rfl, x3, rfl, hpre⟩
      exfalso
      have := hpre Z'.length (by rw [List.length_map, hZ', List.length_map]; exact Nat.le_refl _)
      rw [List.take_length, ← sZ_all (q := fun _ => true) (fun _ _ => rfl), sZ_perm pZ, sZ_all (fun _ _ => rfl)] at this
      omega
end S
namespace S
open PySem PySem.Spec PyProof.Rows L2
def t__law_passes_b1 (K : Frag) (E : XK) : TS :=
    dIfS (dOr (dCmpT (oEq K) (tOp (oIx K) (dVar 4) (tC (.int 1))) (dVar 1)) (dAnd (dCmpT oGt (tOp (oIx K) (dVar 4) (tC (.int 1))) (dVar 1)) (dNot (dTest K (dVar 2))))) (tAsg (tOp (oAdd K) (dVar 3) (tOp (oIx K) (dVar 4) (tC (.int 0)))) (gName 3)) (tNext)
def t__law_passes_2 (K : Frag) (E : XK) : TS :=
    tRet (dVar 3)
def t__law_passes_1 (K : Frag) (E : XK) : TS :=
    tSeq (dFor (iSeq K (dVar 0)) (gName 4) (t__law_passes_b1 K E))
    (stop (t__law_passes_2 K E))
def t__law_passes (K : Frag) (E : XK) : TS :=
    tSeq (tAsg (tC (.int 0)) (gName 3))
    (stop (t__law_passes_1 K E))
end S
-- fn: _law_passes
-- law: k35
-- deps: _law_at_index Fstay
namespace S
open PySem PySem.Spec PyProof.Rows L2
/-- values that pass -/
def psV (c : Int) (eq : Bool) (v : Int) : Bool := if eq = true then decide (v = c) else decide (c ≤ v)
def sp__law_passes (K : Frag) : Sp := fun vs H Q _ => ∃ (p : Addr) (c : Int) (eq : Bool) (Z : List (Int × Int)) (ys : List V), vs = [.ref p, .int c, .bl eq] ∧ H p = some (.lst ys) ∧ Bnds K H Z ys ∧ Q (.int (sZ (psV c eq) Z)) H
theorem pure__law_passes {K : Frag} (vs : List V) (H : Hp) (Q : VK) (E : XK) (h : sp__law_passes K vs H Q E) : t__law_passes K E { nx := fun _ H' => Q .non H', rt := Q } (start ["_law_stretches", "_law_c", "_law_equal", "_law_passing_here", "_law_stretch"] vs) H := by
  obtain ⟨p, c, eq, Z, ys, rfl, hp, hB, good⟩ := h
  walk_at "gx"
  refine for_seq (fun i σ W => W = H ∧ ∃ x4 : Option V, σ = [some (.ref p), some (.int c), some (.bl eq), some (.int (sZ (psV c eq) (Z.take i))), x4]) (.inl (SqL.of hp)) ⟨rfl, none, by rw [List.take_zero]; rfl⟩ (fun i σ H' _ z => by rw [z.1]; exact Same.stay (Same.refl _)) ?_ ?_
  · rintro i y σ W hy ⟨rfl, x4, rfl⟩
    obtain ⟨z, hz, t, rfl, ht⟩ := lcg_at hB hy
    have tk : sZ (psV c eq) (Z.take (i + 1)) = sZ (psV c eq) (Z.take i) + (if psV c eq z.2 = true then z.1 else 0) := by
      rw [List.take_add_one, hz, sZ_app]
      show _ + ((if psV c eq z.2 = true then z.1 else 0) + 0) = _
      omega
    have yes : psV c eq z.2 = true → ∃ x4 : Option V, [some (V.ref p), some (.int c), some (.bl eq), some (.int (sZ (psV c eq) (Z.take i) + z.1)), some (.ref t)] = [some (V.ref p), some (.int c), some (.bl eq), some (.int (sZ (psV c eq) (Z.take (i + 1)))), x4] := fun h => ⟨_, by rw [tk, if_pos h]⟩
    have no : ¬ psV c eq z.2 = true → ∃ x4 : Option V, [some (V.ref p), some (.int c), some (.bl eq), some (.int (sZ (psV c eq) (Z.take i))), some (.ref t)] = [some (V.ref p), some (.int c), some (.bl eq), some (.int (sZ (psV c eq) (Z.take (i + 1)))), x4] := fun h => ⟨_, by rw [tk, if_neg h, Int.add_zero]⟩
    walk_at "gx"
    refine ifd (fun h1 => ?_) (fun h1 => ?_)
    · walk_at "gx"
      exact ⟨rfl, yes (by unfold psV; split; exact decide_eq_true h1; exact decide_eq_true (by omega))⟩
    · walk_at "gx"
      refine ifd (fun h2 => ?_) (fun h2 => ?_)
      · walk_at "gx"
        cases eq with
        | true => exact ⟨rfl, no (by unfold psV; rw [if_pos rfl]; exact fun h => h1 (of_decide_eq_true h))⟩
        | false =>
          walk_at "gx"
          exact ⟨rfl, yes (by unfold psV; rw [if_neg Bool.false_ne_true]; exact decide_eq_true (by omega))⟩
      · exact ⟨rfl, no (by unfold psV; split <;> simp <;> omega)⟩
  · rintro σ W ⟨rfl, x4, rfl⟩
    have lz := Paired.length hB
    rw [← lz, List.take_length]
    refine ⟨?_⟩
    walk_at "gx"
    exact good
end S
-- deps: Lc D0
/-! ## comprehensions over range; stretches as lists -/
namespace S
open PySem PySem.Spec PyProof.Rows L2
theorem lc_rng {m i : Nat} {te : TE} {vs : List Nat} {σ : L2.St} {H1 : Hp} {Q : VK} (R : Addr → Nat → V → Hp → Prop) (hz : m < sizeLine)
    (mono : ∀ D j y H H' l, H D = some (.lst l) → R D j y H → SameX D H H' → R D j y H')
    (hs : ∀ (D : Addr) (l : List V) (j : Nat) (H : Hp) (A : V → Hp → Prop), H1 D = none → H D = some (.lst l) → j < m → Same H1 H → (∀ y H', Same H H' → R D j y H' → A y H') → wipe ((wipe σ vs).set i (some (.int j))) vs = wipe σ vs ∧ te ((wipe σ vs).set i (some (.int j))) H A)
    (hd : ∀ D ys H', H1 D = none → H' D = some (.lst ys) → ys.length = m → (∀ j y, ys[j]? = some y → R D j y H') → Same H1 H' → Q (.ref D) H') :
    Wr (LcGo (gName i) tYes te vs σ Q) (Itr 0 m) H1 := by
  refine ⟨fun D hD => ?_⟩
  refine lc_range (lo := 0) (Qd := fun H => Q (.ref D) H) (fun j H => ∃ ys, H D = some (.lst ys) ∧ ys.length = j ∧ (∀ k y, ys[k]? = some y → R D k y H) ∧ Same H1 H) ⟨[], upd_same, rfl, fun k y h => by simp at h, same_new hD⟩ ?_ ?_
  · rintro j H hj ⟨ys, h1, h2, h3, e⟩
    obtain ⟨w, q⟩ := hs D ys j H (fun y H4 => ∃ acc, H4 D = some (.lst acc) ∧ acc.length < sizeLine ∧ ∃ ys, upd H4 D (.lst (acc ++ [y])) D = some (.lst ys) ∧ ys.length = j + 1 ∧ (∀ k y', ys[k]? = some y' → R D k y' (upd H4 D (.lst (acc ++ [y])))) ∧ Same H1 (upd H4 D (.lst (acc ++ [y])))) hD h1 hj e fun y H' e2 r => by
      have si : SameX D H' (L2.upd H' D (.lst (ys ++ [y]))) := SameX.upd
      refine ⟨ys, e2 _ _ h1, by omega, ys ++ [y], upd_same, by rw [List.length_append, List.length_singleton, h2], fun k y' hk => ?_, fun b o hb => ?_⟩
      · by_cases hkj : k < ys.length
        · rw [List.getElem?_append_left hkj] at hk
          exact mono _ _ _ _ _ _ h1 (h3 k y' hk) (Same.thenX e2 si)
        · have hk2 : k < ys.length + 1 := by
            obtain ⟨h, _⟩ := List.getElem?_eq_some_iff.mp hk
            rw [List.length_append, List.length_singleton] at h; exact h
          have ek : k = j := by omega
          subst ek
          rw [List.getElem?_append_right (by omega), h2, Nat.sub_self] at hk
          have ey : y = y' := by simpa using hk
          rw [← ey]
          exact mono _ _ _ _ _ _ (e2 _ _ h1) r si
      · rw [upd_ne (ne_of_none hb hD)]
        exact e2 _ _ (e _ _ hb)
    show gName i (.int (0 + (j : Int))) (wipe σ vs) H _
    rw [Int.zero_add]
    refine ⟨w, ?_⟩
    unfold tYes
    dsimp only
    rw [if_pos rfl]
    exact q
  · rintro H ⟨ys, h1, h2, h3, e⟩
    exact hd D ys H hD h1 h2 h3 e
end S
-- deps: Sm Summary_bounds1
namespace S
open PySem PySem.Spec PyProof.Rows L2
/-- the stretches between rows, each with the number of its first row -/
def strL (g : Int → Int) (n : Int) : List Int → List (Int × Int)
  | [] => []
  | [r] => [(n - r, g r)]
  | r :: r' :: l => (r' - r, g r) :: strL g n (r' :: l)
theorem strL_len (g : Int → Int) (n : Int) : ∀ rs : List Int, (strL g n rs).length = rs.length
  | [] => rfl
  | [_] => rfl
  | r :: r' :: l => by
    show (strL g n (r' :: l)).length + 1 = _
    rw [strL_len g n (r' :: l)]; rfl
theorem strL_get (g : Int → Int) (n : Int) : ∀ (rs : List Int) (j : Nat) (a b : Int), (rs ++ [n])[j]? = some a → (rs ++ [n])[j + 1]? = some b → (strL g n rs)[j]? = some (b - a, g a)
  | [], j, a, b, _, h2 => by simp at h2
  | [r], 0, a, b, h1, h2 => by
    have e1 : r = a := by simpa using h1
    have e2 : n = b := by simpa using h2
    subst e1 e2; rfl
  | [r], j + 1, a, b, _, h2 => by simp at h2
  | r :: r' :: l, 0, a, b, h1, h2 => by
    have e1 : r = a := by simpa using h1
    have e2 : r' = b := by simpa using h2
    subst e1 e2; rfl
  | r :: r' :: l, j + 1, a, b, h1, h2 => strL_get g n (r' :: l) j a b h1 h2
theorem strL_sum (g : Int → Int) (n : Int) (p : Int → Bool) : ∀ rs : List Int, (((strL g n rs).filter fun z => p z.2).map (·.1)).sum = strS (fun row => if p (g row) = true then 1 else 0) n rs
  | [] => rfl
  | [r] => by
    show (([(n - r, g r)].filter fun z => p z.2).map (·.1)).sum = (n - r) * (if p (g r) = true then 1 else 0)
    by_cases h : p (g r) = true
    · rw [List.filter_cons_of_pos (p := fun z : Int × Int => p z.2) h, if_pos h]; simp
    · rw [List.filter_cons_of_neg (p := fun z : Int × Int => p z.2) h, if_neg h]; simp
  | r :: r' :: l => by
    have ih := strL_sum g n p (r' :: l)
    show ((((r' - r, g r) :: strL g n (r' :: l)).filter fun z => p z.2).map (·.1)).sum = (r' - r) * (if p (g r) = true then 1 else 0) + strS (fun row => if p (g row) = true then 1 else 0) n (r' :: l)
    by_cases h : p (g r) = true
    · rw [List.filter_cons_of_pos (p := fun z : Int × Int => p z.2) h, if_pos h, List.map_cons, List.sum_cons, ih, Int.mul_one]
    · rw [List.filter_cons_of_neg (p := fun z : Int × Int => p z.2) h, if_neg h, ih, Int.mul_zero, Int.zero_add]
theorem numL_step {L : List (List Int)} {row : Int} (h : ∀ es ∈ L, row ∉ es) : numL L row = numL L (row - 1) := by
  unfold numL
  congr 1
  exact List.map_congr_left fun es hes => inB_step (h es hes)
end S
namespace S
open PySem PySem.Spec PyProof.Rows L2
def t__law_number_at_b1 (K : Frag) (E : XK) : TS :=
    dIfS (dTest K (dCall (sp__law_in K) (EW E) (tCons (tOp (oIx K) (dVar 0) (dVar 3)) (tCons (dVar 1) (tNil))))) (dIfS (dCmpT (oEq K) (dVar 3) (tOp oSub (tCB (cLen K) (tCons (dVar 0) (tNil))) (tC (.int 1)))) (tAsg (tOp oSub (dVar 2) (tOp oShl (tC (.int 1)) (dVar 3))) (gName 2)) (tAsg (tOp (oAdd K) (dVar 2) (tOp oShl (tC (.int 1)) (dVar 3))) (gName 2))) (tNext)
def t__law_number_at_2 (K : Frag) (E : XK) : TS :=
    tRet (dVar 2)
def t__law_number_at_1 (K : Frag) (E : XK) : TS :=
    tSeq (dFor (iRng (tCons (tCB (cLen K) (tCons (dVar 0) (tNil))) (tNil))) (gName 3) (t__law_number_at_b1 K E))
    (stop (t__law_number_at_2 K E))
def t__law_number_at (K : Frag) (E : XK) : TS :=
    tSeq (tAsg (tC (.int 0)) (gName 2))
    (stop (t__law_number_at_1 K E))
end S
-- fn: _law_number_at
-- law: k12
-- deps: Sl _law_in
namespace S
open PySem PySem.Spec PyProof.Rows L2
def sp__law_number_at (K : Frag) : Sp := fun vs H Q _ => ∃ (p : Addr) (row : Int) (M : List Sli), vs = [.ref p, .int row] ∧ H p = some (.lst (M.map vB)) ∧ (∀ t ∈ M, H t.1 = some (.lst (t.2.map V.int))) ∧ M.length ≤ 1000 ∧ Q (.int (numL (M.map (·.2)) row)) H
theorem pow1 {i : Nat} : (1 : Int) * 2 ^ i = 2 ^ i := Int.one_mul _
theorem pure__law_number_at {K : Frag} (vs : List V) (H : Hp) (Q : VK) (E : XK) (h : sp__law_number_at K vs H Q E) : t__law_number_at K E { nx := fun _ H' => Q .non H', rt := Q } (start ["_law_lists", "_law_row", "_law_number", "_law_place"] vs) H := by
  obtain ⟨p, row, M, rfl, hp, hL, hM, q⟩ := h
  let bs := M.map fun t => inB t.2 row
  have hbl : bs.length = M.length := List.length_map ..
  have hnum : numL (M.map (·.2)) row = accP bs.length 0 bs := by rw [acc_all]; unfold numL; rw [List.map_map]; rfl
  rw [hnum] at q
  walk_at "gx"
  refine for_rng (fun i σ H1 => H1 = H ∧ ∃ (x : Int) (k : Option V), σ = [some (.ref p), some (.int row), some (.int x), k] ∧ x + accP bs.length i (bs.drop i) = accP bs.length 0 bs) ⟨rfl, 0, none, rfl, by rw [List.drop_zero, Int.zero_add]⟩ ?_ ?_
  · rintro i σ H1 hi ⟨rfl, x, k, rfl, hx⟩
    rw [List.length_map] at hi
    have hil : i < M.length := by omega
    have hg : M[i]? = some M[i] := List.getElem?_eq_getElem hil
    have hm := List.getElem_mem hil
    have hd : bs.drop i = inB M[i].2 row :: bs.drop (i + 1) := by
      rw [List.drop_eq_getElem_cons (by rw [hbl]; exact hil)]
      congr 1
      show (M.map _)[i] = _
      rw [List.getElem_map]
    rw [hd] at hx
    generalize M[i] = t at *
    have ha : atI (M.map vB) (i : Int) = some (.ref t.1) := atI_nat (by rw [List.getElem?_map, hg]; rfl)
    walk_at "gx"
    refine ⟨t.1, t.2, row, rfl, .inl (SqL.of (hL t hm)), ?_⟩
    have hx : x + ((if inB t.2 row = true then (if i + 1 = bs.length then -(2 ^ i : Int) else 2 ^ i) else 0) + accP bs.length (i + 1) (bs.drop (i + 1))) = accP bs.length 0 bs := hx
    cases hb : inB t.2 row
    · rw [hb, if_neg Bool.false_ne_true, Int.zero_add] at hx
      exact ⟨rfl, x, _, rfl, hx⟩
    · rw [hb, if_pos rfl] at hx
      walk_at "gx"
      refine ifd (fun hl => ?_) (fun hl => ?_)
      · have hl : (i : Int) = (M.map vB).length - 1 := hl
        rw [List.length_map] at hl
        rw [if_pos (by omega)] at hx
        walk_at "gx"
        refine ⟨rfl, _, _, rfl, ?_⟩
        dsimp only
        rw [Int.toNat_natCast, pow1]
        generalize (2 ^ i : Int) = z at *
        omega
      · have hl : ¬ (i : Int) = (M.map vB).length - 1 := hl
        rw [List.length_map] at hl
        rw [if_neg (by omega)] at hx
        walk_at "gx"
        refine ⟨rfl, _, _, rfl, ?_⟩
        dsimp only
        rw [Int.toNat_natCast, pow1]
        generalize (2 ^ i : Int) = z at *
        omega
  · rintro σ H1 ⟨rfl, x, k, rfl, hx⟩
    have e : ((M.map vB).length : Int).toNat = bs.length := by rw [List.length_map, Int.toNat_natCast, hbl]
    rw [e, List.drop_length] at hx
    have hx : x + 0 = accP bs.length 0 bs := hx
    rw [Int.add_zero] at hx
    subst hx
    exact ⟨q⟩
end S
namespace S
open PySem PySem.Spec PyProof.Rows L2
def t__law_numbers_1 (K : Frag) (E : XK) : TS :=
    tRet (dLc (iRng (tCons (tOp oSub (tCB (cLen K) (tCons (dVar 2) (tNil))) (tC (.int 1))) (tNil))) (gName 3) (tYes) (dTup K (tCons (tOp oSub (tOp (oIx K) (dVar 2) (tOp (oAdd K) (dVar 3) (tC (.int 1)))) (tOp (oIx K) (dVar 2) (dVar 3))) (tCons (dCall (sp__law_number_at K) (EW E0) (tCons (dVar 0) (tCons (tOp (oIx K) (dVar 2) (dVar 3)) (tNil)))) (tNil)))) [3])
def t__law_numbers (K : Frag) (E : XK) : TS :=
    tSeq (tAsg (tOp (oAdd K) (tCB (cSorted K) (tCons (dCall (sp__law_rows_of K) (EW E) (tCons (dVar 1) (tCons (dVar 0) (tNil)))) (tNil))) (dLst (tCons (dVar 1) (tNil)))) (gName 2))
    (stop (t__law_numbers_1 K E))
end S
-- fn: _law_numbers
-- law: k35
-- deps: Lr Strl _law_rows_of _law_number_at _law_places
namespace S
open PySem PySem.Spec PyProof.Rows L2
theorem strL_wsum (g : Int → Int) (n : Int) : ∀ rs : List Int, ((strL g n rs).map fun z => z.1 * z.2).sum = strS g n rs
  | [] => rfl
  | [r] => by
    show (n - r) * g r + 0 = (n - r) * g r
    omega
  | r :: r' :: l => by
    have ih := strL_wsum g n (r' :: l)
    show (((r' - r, g r) :: strL g n (r' :: l)).map fun z : Int × Int => z.1 * z.2).sum = (r' - r) * g r + strS g n (r' :: l)
    rw [List.map_cons, List.sum_cons, ih]
theorem strL_nn {g : Int → Int} {n : Int} : ∀ {rs : List Int}, rs.Pairwise (· ≤ ·) → (∀ z ∈ rs, z ≤ n) → ∀ z ∈ strL g n rs, 0 ≤ z.1
  | [], _, _, z, h => nomatch h
  | [r], _, hb, z, h => by
    obtain rfl := List.mem_singleton.mp h
    have := hb r (by simp)
    show 0 ≤ n - r
    omega
  | r :: r' :: l, hp, hb, z, h => by
    rcases List.mem_cons.mp h with rfl | h
    · have := (List.pairwise_cons.mp hp).1 r' (by simp)
      show 0 ≤ r' - r
      omega
    · exact strL_nn (List.pairwise_cons.mp hp).2 (fun z hz => hb z (List.mem_cons_of_mem _ hz)) z h
def sp__law_numbers (K : Frag) : Sp := fun vs H Q _ => ∃ (p : Addr) (n : Int) (M : List Sli), vs = [.ref p, .int n] ∧ H p = some (.lst (M.map vB)) ∧ Lss H n 1000 M ∧ M.length ≤ 100 ∧ M ≠ [] ∧ n ≤ 10 ^ 18 ∧ 0 ≤ n ∧
  ∀ (l : Addr) (Z : List (Int × Int)) (ys : List V) (H' : Hp), Same H H' → H l = none → H' l = some (.lst ys) → Bnds K H' Z ys → (∀ q : Int → Bool, ((Z.filter fun z => q z.2).map (·.1)).sum = cntF (fun row => q (numL (M.map (·.2)) row)) n.toNat) → (0 < n → Z ≠ []) → Z.length ≤ 1000001 → (∀ z ∈ Z, 0 ≤ z.1) → (Z.map fun z => z.1 * z.2).sum = sumN (numL (M.map (·.2))) n.toNat → Q (.ref l) H'
theorem pure__law_numbers {K : Frag} (vs : List V) (H : Hp) (Q : VK) (E : XK) (h : sp__law_numbers K vs H Q E) : t__law_numbers K E { nx := fun _ H' => Q .non H', rt := Q } (start ["_law_lists", "_law_size_here", "_law_starts", "_law_k"] vs) H := by
  obtain ⟨p, n, M, rfl, hp, hM, lM, ne, n1, n0, q⟩ := h
  walk_at "gx"
  refine ⟨p, n, M, rfl, hp, hM.b, by omega, fun r rows H2 nr e13 hr hb hm lr h0r _ => ?_⟩
  walk_at "gx"
  refine ⟨⟨rows, SqL.of hr, fun rs s hperm hsort ns => ?_⟩⟩
  have e4 := same_new (o := .lst (rs.map V.int)) ns
  walk_at "gx"
  refine ⟨fun l2 nl2 => ?_⟩
  have e5 := same_new (o := .lst [V.int n]) nl2
  have lrs : rs.length = rows.length := hperm.length_eq
  refine Cat.l (e5 _ _ upd_same) upd_same (by simp only [sizeLine_eq, List.length_map, List.length_singleton]; omega) fun u nu => ?_
  have eN : rs.map V.int ++ [V.int n] = (rs ++ [n]).map V.int := by rw [List.map_append]; rfl
  rw [eN]
  have e6 := same_new (o := .lst ((rs ++ [n]).map V.int)) nu
  have e16 := ((e13.trans e4).trans e5).trans e6
  generalize hH6 : upd (upd (upd H2 s (.lst (rs.map V.int))) l2 (.lst [V.int n])) u (.lst ((rs ++ [n]).map V.int)) = H6 at *
  have hu : H6 u = some (.lst ((rs ++ [n]).map V.int)) := by rw [← hH6]; exact upd_same
  have hbr : ∀ z ∈ rs, 0 ≤ z ∧ z < n := fun z hz => hb z (hperm.mem_iff.mp hz)
  have h00 : 0 < n → (0 : Int) ∈ rs := fun z => hperm.mem_iff.mpr (h0r z)
  walk_at "gx"
  dsimp only
  have en : (((rs ++ [n]).map V.int).length : Int) - 1 = (rs.length : Int) := by simp only [List.length_map, List.length_append, List.length_singleton]; omega
  rw [en, show (rs.length : Int).toNat = rs.length by omega]
  refine lc_rng (fun D j y H => ∃ (a b : Int) (t : Addr), (rs ++ [n])[j]? = some a ∧ (rs ++ [n])[j + 1]? = some b ∧ y = .ref t ∧ SqT K H t [.int (b - a), .int (numL (M.map (·.2)) a)]) (by rw [sizeLine_eq]; omega) ?_ ?_ ?_
  · rintro D j y H1 H1' l hD ⟨a, b, t, h1, h2, rfl, h3⟩ e
    exact ⟨a, b, t, h1, h2, rfl, e.tup h3 hD⟩
  · intro D l j H7 A hD hl hj e7 hA
    have e17 := e16.trans e7
    obtain ⟨a, ha⟩ : ∃ a, (rs ++ [n])[j]? = some a := ⟨_, List.getElem?_eq_getElem (by simp; omega)⟩
    obtain ⟨b, hb2⟩ : ∃ b, (rs ++ [n])[j + 1]? = some b := ⟨_, List.getElem?_eq_getElem (by simp; omega)⟩
    have haV : ((rs ++ [n]).map V.int)[j]? = some (.int a) := by rw [List.getElem?_map, ha]; rfl
    have hbV : ((rs ++ [n]).map V.int)[j + 1]? = some (.int b) := by rw [List.getElem?_map, hb2]; rfl
    have hu7 := e7 _ _ hu
    refine ⟨rfl, ?_⟩
    walk_at "gx"
    first | refine Rd.l hu7 (S.At.of (atI_nat (j := j + 1) hbV) ?_) | refine S.At.of (atI_nat (j := j + 1) hbV) ?_
    refine Rd.l hu7 (S.At.of (atI_nat haV) ?_)
    walk_at "gx"
    first | refine Rd.l hu7 (S.At.of (atI_nat haV) ?_) | refine S.At.of (atI_nat haV) ?_
    refine ⟨p, a, M, rfl, e17 _ _ hp, fun t ht => e17 _ _ (hM t ht).1, by omega, ?_⟩
    walk_at "gx"
    refine ⟨fun t H8 e8 ht => ?_⟩
    exact hA _ _ e8 ⟨a, b, t, ha, hb2, rfl, ht⟩
  · intro D ys H7 hD hD7 lys hys e7
    have e17 := e16.trans e7
    refine q D (strL (numL (M.map (·.2))) n rs) ys H7 e17 (same_none e16 hD) hD7 ?_ (fun q => ?_) (fun hn z => ?_) (by rw [strL_len]; omega) (strL_nn hsort fun z hz => by have := hbr z hz; omega) (by
      rw [strL_wsum]
      exact strS_all hsort hbr h00 fun row r0 r1 hnr => numL_step fun es hes hmem => hnr (hperm.mem_iff.mpr (by
        obtain ⟨t, ht, rfl⟩ := List.mem_map.mp hes
        exact hm t ht row hmem)))
    · have key : ∀ (Z : List (Int × Int)) (zs : List V), Z.length = zs.length → (∀ (j : Nat) (z : Int × Int) (y : V), Z[j]? = some z → zs[j]? = some y → ∃ t, y = .ref t ∧ SqT K H7 t [.int z.1, .int z.2]) → Bnds K H7 Z zs := by
        intro Z
        induction Z with
        | nil =>
          intro zs h1 _
          have : zs = [] := List.eq_nil_of_length_eq_zero h1.symm
          subst this; exact .nil
        | cons z Z ih =>
          intro zs h1 h2
          cases zs with
          | nil => simp at h1
          | cons y zs =>
            exact .cons (h2 0 z y rfl rfl) (ih zs (by simpa using h1) fun j z' y' hz hy => h2 (j + 1) z' y' hz hy)
      refine key _ _ (by rw [strL_len, lys]) fun j z y hz hy => ?_
      obtain ⟨a, b, t, h1, h2, h3, h4⟩ := hys j y hy
      have := strL_get (numL (M.map (·.2))) n rs j a b h1 h2
      rw [hz] at this
      cases this
      exact ⟨t, h3, h4⟩
    · rw [strL_sum, cnt_sum]
      refine strS_all hsort hbr h00 fun row r0 r1 hnr => ?_
      have hrow : row ∉ rows := fun z => hnr (hperm.mem_iff.mpr z)
      show (if q (numL (M.map (·.2)) row) = true then (1 : Int) else 0) = if q (numL (M.map (·.2)) (row - 1)) = true then 1 else 0
      rw [numL_step fun es hes hmem => by
        obtain ⟨t, ht, rfl⟩ := List.mem_map.mp hes
        exact hrow (hm t ht row hmem)]
    · have hm0 := h00 hn
      have lz := congrArg List.length z
      rw [strL_len] at lz
      have e0 : rs = [] := List.eq_nil_of_length_eq_zero lz
      rw [e0] at hm0
      exact nomatch hm0
end S
namespace S
open PySem PySem.Spec PyProof.Rows L2
end S
-- fn: Column.uniform
-- law: k22
-- deps: Column_of_runs Cmp
namespace S
open PySem PySem.Spec PyProof.Rows L2
end S
namespace S
open PySem PySem.Spec PyProof.Rows L2
end S
-- fn: Column.like
-- law: k18
-- deps: Column_uniform Cmp Cx
namespace S
open PySem PySem.Spec PyProof.Rows L2
end S
namespace S
open PySem PySem.Spec PyProof.Rows L2
end S
-- fn: extended
-- law: k13
-- deps: Sl _law_places
namespace S
open PySem PySem.Spec PyProof.Rows L2
end S
namespace S
open PySem PySem.Spec PyProof.Rows L2
end S
namespace S
open PySem PySem.Spec PyProof.Rows L2
def t_Bitmap_full (K : Frag) (E : XK) : TS :=
    tRet (dGiv (CF K "Bitmap" ["ends", "size"]) (dMake K "Bitmap" (sp_Bitmapdd_initdd K) (EW E) (tCons (dVar 0) (tCons (dCall (sp_turned K) (EW E) (tCons (dTup K (tNil)) (tCons (dVar 0) (tNil)))) (tNil)))))
end S
-- fn: Bitmap.empty Bitmap.full
-- law: k13
-- deps: Bm Bitmap_init turned turned_law
namespace S
open PySem PySem.Spec PyProof.Rows L2
def sp_Bitmap_full (K : Frag) : Sp := fun vs H Q E => ∃ (n : Int), vs = [.int n] ∧ (0 ≤ n → ∀ z H', Same H H' → H z = none → Bm K H' z n (mTurned [] n) → Q (.ref z) H') ∧ (n < 0 → XF K "BadBitmap" → ∀ H', Same H H' → E (.ref (He.ga K "BadBitmap")) none H')
theorem pure_Bitmap_full {K : Frag} (vs : List V) (H : Hp) (Q : VK) (E : XK) (h : sp_Bitmap_full K vs H Q E) : t_Bitmap_full K E { nx := fun _ H' => Q .non H', rt := Q } (start ["size"] vs) H := by
  obtain ⟨n, rfl, good, bad⟩ := h
  refine fun cf => ?_
  walk_at "gx"
  refine ⟨fun p H1 e1 hp => ?_⟩
  refine ⟨p, [], n, rfl, .inr hp, by decide, fun t H2 e2 ht => ?_⟩
  refine mk_bitmap cf (.inr ht) (fun h0 _ z H' e nz hz => good h0 z H' ((e1.trans e2).trans e) ?_ hz) (fun hb xf H' e => bad (by
    by_cases h0 : 0 ≤ n
    · exact absurd ⟨h0, turned_ends ⟨.nil, fun _ z => nomatch z⟩ h0⟩ hb
    · omega) xf H' ((e1.trans e2).trans e))
  cases e3 : H z with
  | none => rfl
  | some o => rw [e2 _ _ (e1 _ _ e3)] at nz; cases nz
end S
namespace S
open PySem PySem.Spec PyProof.Rows L2
end S
namespace S
open PySem PySem.Spec PyProof.Rows L2
end S
-- fn: added negated
-- law: k13
-- own: BitXor=Bitmap BitAnd=Bitmap BitOr=Bitmap Invert=Bitmap
-- deps: Bs extended Bitmap_empty _law_places _law_rows_of
namespace S
open PySem PySem.Spec PyProof.Rows L2
end S
namespace S
open PySem PySem.Spec PyProof.Rows L2
end S
-- fn: Column.__add__
-- law: k18
-- own: BitAnd=Bitmap
-- deps: Column_like added Column_init Cmp Cx
namespace S
open PySem PySem.Spec PyProof.Rows L2
end S
namespace S
open PySem PySem.Spec PyProof.Rows L2
def t__law_is_number (K : Frag) (E : XK) : TS :=
    tRet (dAndV (tCB (cIsi K) (tCons (dVar 0) (tCons (tC (.ty "int")) (tNil)))) (dNotV (tCB (cIsi K) (tCons (dVar 0) (tCons (tC (.ty "bool")) (tNil))))))
end S
-- fn: _law_is_number
-- law: k03
-- deps: D0
namespace S
open PySem PySem.Spec PyProof.Rows L2
def sp__law_is_number (K : Frag) : Sp := fun vs H Q _ => ∃ (i : Int), vs = [.int i] ∧ Q (.bl true) H
theorem isi_int {K : Frag} {H : Hp} {i : Int} {k : Bool → Prop} (q : k true) : Isi K H (.int i) (.type "int") k := Isi.of (.base (.int i)) rfl q
theorem isi_int_bool {K : Frag} {H : Hp} {i : Int} {k : Bool → Prop} (q : k false) : Isi K H (.int i) (.type "bool") k := Isi.of (.base (.int i)) rfl q
theorem pure__law_is_number {K : Frag} (vs : List V) (H : Hp) (Q : VK) (E : XK) (h : sp__law_is_number K vs H Q E) : t__law_is_number K E { nx := fun _ H' => Q .non H', rt := Q } (start ["_law_x"] vs) H := by
  obtain ⟨i, rfl, q⟩ := h
  refine isi_int ?_
  refine isi_int_bool ?_
  exact q
end S
namespace S
open PySem PySem.Spec PyProof.Rows L2
def t__law_is_bitmap_b1_1 (K : Frag) (E : XK) : TS :=
    tAsg (dVar 3) (gName 2)
def t__law_is_bitmap_b1 (K : Frag) (E : XK) : TS :=
    tSeq (dIfS (dOr (dNot (dTest K (dCall (sp__law_is_number K) (EW E) (tCons (dVar 3) (tNil))))) (dOr (dCmpT oLe (dVar 3) (dVar 2)) (dCmpT oGe (dVar 3) (dVar 1)))) (tRet (tC (.bl false))) (tNext))
    (stop (t__law_is_bitmap_b1_1 K E))
def t__law_is_bitmap_3 (K : Frag) (E : XK) : TS :=
    tRet (tC (.bl true))
def t__law_is_bitmap_2 (K : Frag) (E : XK) : TS :=
    tSeq (dFor (iSeq K (dAt K "ends" (dVar 0))) (gName 3) (t__law_is_bitmap_b1 K E))
    (stop (t__law_is_bitmap_3 K E))
def t__law_is_bitmap_1 (K : Frag) (E : XK) : TS :=
    tSeq (tAsg (tUn uNeg (tC (.int 1))) (gName 2))
    (stop (t__law_is_bitmap_2 K E))
def t__law_is_bitmap (K : Frag) (E : XK) : TS :=
    tSeq (dIfS (dOr (dNot (dTest K (dGiv (MF K "Bitmap" [] ["object"]) (tCB (cIsi K) (tCons (dVar 0) (tCons (tC (.ref (He.ga K "Bitmap"))) (tNil))))))) (dOr (dNot (dTest K (dCall (sp__law_is_number K) (EW E) (tCons (dAt K "size" (dVar 0)) (tNil))))) (dOr (dCmpT (oNe K) (dAt K "size" (dVar 0)) (dVar 1)) (dNot (dTest K (tCB (cIsi K) (tCons (dAt K "ends" (dVar 0)) (tCons (tC (.ty "tuple")) (tNil))))))))) (tRet (tC (.bl false))) (tNext))
    (stop (t__law_is_bitmap_1 K E))
end S
-- fn: _law_is_bitmap
-- law: k05
-- deps: Bm isi_bm _law_is_number _law_in D1
namespace S
open PySem PySem.Spec PyProof.Rows L2
def sp__law_is_bitmap (K : Frag) : Sp := fun vs H Q _ => ∃ (x : Addr) (n : Int) (es : List Int), vs = [.ref x, .int n] ∧ Bm K H x n es ∧ Q (.bl true) H
theorem pure__law_is_bitmap {K : Frag} (vs : List V) (H : Hp) (Q : VK) (E : XK) (h : sp__law_is_bitmap K vs H Q E) : t__law_is_bitmap K E { nx := fun _ H' => Q .non H', rt := Q } (start ["_law_x", "_law_size_here", "_law_last", "_law_end"] vs) H := by
  obtain ⟨x, n, es, rfl, hb, q⟩ := h
  obtain ⟨c, n0, hE, dx, p, hs, hp⟩ := id hb
  refine fun _ => ?_
  refine isi_bm hb ?_
  refine Atr.sl c hs (i := 1) rfl rfl ?_
  refine ⟨n, rfl, ?_⟩
  walk_at "gx"
  refine Atr.sl c hs (i := 1) rfl rfl ?_
  walk_at "gx"
  refine ifnf rfl ?_
  refine Atr.sl c hs (i := 0) rfl rfl ?_
  refine isi_tup hp ?_
  walk_at "gx"
  refine Atr.sl c hs (i := 0) rfl rfl ?_
  refine for_seq (fun i σ H5 => H5 = H ∧ ∃ (last : Int) (k : Option V), σ = [some (.ref x), some (.int n), some (.int last), k] ∧ (last = -1 ∨ ∃ j, j < i ∧ es[j]? = some last)) (.inr hp) ⟨rfl, -1, none, rfl, .inl rfl⟩ (fun i σ H5 _ z => by rw [z.1]; exact Same.stay (Same.refl _)) ?_ ?_
  · rintro i v σ H5 hx ⟨rfl, last, k, rfl, hlast⟩
    obtain ⟨y, hy, rfl⟩ := map_get hx
    have hyr := hE.2 y (List.mem_of_getElem? hy)
    have hgt : last < y := by
      rcases hlast with e | ⟨j, hj, hlj⟩
      · omega
      · exact pw_lt hE.1 hj hlj hy
    walk_at "gx"
    refine ⟨y, rfl, ?_⟩
    walk_at "gx"
    refine iff' (by omega) ?_
    walk_at "gx"
    refine iff' (by omega) ?_
    walk_at "gx"
    exact ⟨rfl, y, _, rfl, .inr ⟨i, Nat.lt_succ_self _, hy⟩⟩
  · rintro σ H5 ⟨rfl, last, k, rfl, hlast⟩
    walk_at "gx"
    exact q
end S
namespace S
open PySem PySem.Spec PyProof.Rows L2
end S
namespace S
open PySem PySem.Spec PyProof.Rows L2
end S
-- fn: _law_is_list _law_stay
-- law: k13
-- deps: Lc _law_is_bitmap _law_rows_of _law_number_at
namespace S
open PySem PySem.Spec PyProof.Rows L2
end S
namespace S
open PySem PySem.Spec PyProof.Rows L2
end S
-- fn: _law_read
-- law: k32
-- deps: Bld2 Column_ops Column_init Cx _law_is_bitmap _law_is_number _law_rows_of _law_number_at _law_in D0 D1 _law_is_list
namespace S
open PySem PySem.Spec PyProof.Rows L2
/-- [list(b.ends) for b in slices], of a tuple too -/
theorem lc_endsT {K : Frag} {r : Addr} {i : Nat} {vs : List Nat} {σ : L2.St} {H : Hp} {Q : VK} {n : Int} (T : List Sli) (hr : SqA K H r (T.map vB)) (hB : Bms K H n T) (hz : T.length ≤ 1000) (hl : ∀ t ∈ T, t.2.length ≤ 1000)
    (hw : ∀ t : Sli, wipe ((wipe σ vs).set i (some (vB t))) vs = wipe σ vs) (hv : ∀ t : Sli, nth ((wipe σ vs).set i (some (vB t))) i = some (vB t))
    (hd : ∀ (l : Addr) (L : List Sli) (H' : Hp), H l = none → H' l = some (.lst (L.map vB)) → Lss H' n 1000 L → L.map (·.2) = T.map (·.2) → Same H H' → Q (.ref l) H') :
    Walk K H r (Wr (LcGo (gName i) tYes (tCB (cList K) (tCons (dAt K "ends" (dVar i)) tNil)) vs σ Q)) := by
  refine lc_dat T vB (fun D t y H => ∃ z, y = .ref z ∧ z ≠ D ∧ H z = some (.lst (t.2.map V.int))) hr (by rw [sizeLine_eq]; omega) ?_ ?_ ?_
  · rintro D t y H1 H2 l hD ⟨z, rfl, hz, hz2⟩ e
    exact ⟨z, rfl, hz, e _ _ hz2 hz⟩
  · intro D l j t H1 A nD hD hj e1 hA
    obtain ⟨cx, _, _, dx, u, sl, hu⟩ := (hB t (List.mem_of_getElem? hj)).same e1
    refine ⟨hw t, ?_⟩
    show onSome (nth _ i) _
    rw [hv t]
    refine Atr.sl cx sl (i := 0) rfl rfl ?_
    refine Rd.st hu ?_
    refine ⟨fun z nz => hA _ _ (same_new nz) ⟨z, rfl, (ne_of_none hD nz).symm, upd_same⟩⟩
  · intro D ys H1 nD hD hP e1
    obtain ⟨L, rfl, eL, hL⟩ := paired_lst (es := fun t : Sli => t.2) hP
    refine hd D L H1 nD hD (fun t ht => ?_) eL e1
    have h2 : t.2 ∈ T.map (·.2) := by rw [← eL]; exact List.mem_map.mpr ⟨t, ht, rfl⟩
    obtain ⟨u, hu, he⟩ := List.mem_map.mp h2
    exact ⟨hL t ht, by rw [← he]; exact (hB u hu).2.2.1, by rw [← he]; exact hl u hu⟩
section
variable {K : Frag} {E : XK} {Q : VK}
end
end S
namespace S
open PySem PySem.Spec PyProof.Rows L2
def t__law_ones_b1 (K : Frag) (E : XK) : TS :=
    dIfS (dCmpT (oEq K) (tOp oMod (tCB cInt (tCons (dVar 3) (tNil))) (tC (.int 2))) (tC (.int 0))) (tAsg (tOp oSub (tOp (oAdd K) (dVar 2) (dVar 1)) (tOp (oIx K) (dVar 0) (dVar 3))) (gName 2)) (tAsg (tOp (oAdd K) (tOp oSub (dVar 2) (dVar 1)) (tOp (oIx K) (dVar 0) (dVar 3))) (gName 2))
def t__law_ones_2 (K : Frag) (E : XK) : TS :=
    tRet (dVar 2)
def t__law_ones_1 (K : Frag) (E : XK) : TS :=
    tSeq (dFor (iRng (tCons (tCB (cLen K) (tCons (dVar 0) (tNil))) (tNil))) (gName 3) (t__law_ones_b1 K E))
    (stop (t__law_ones_2 K E))
def t__law_ones (K : Frag) (E : XK) : TS :=
    tSeq (tAsg (tC (.int 0)) (gName 2))
    (stop (t__law_ones_1 K E))
end S
-- fn: _law_ones
-- law: k31
-- deps: Sm _law_ends
namespace S
open PySem PySem.Spec PyProof.Rows L2
def sp__law_ones (K : Frag) : Sp := fun vs H Q _ => ∃ (e : Addr) (n : Int) (es : List Int), vs = [.ref e, .int n] ∧ SqA K H e (es.map V.int) ∧ Ends n es ∧ es.length ≤ 1000 ∧ 0 ≤ n ∧ Q (.int (cntF (inB es) n.toNat)) H
theorem pure__law_ones {K : Frag} (vs : List V) (H : Hp) (Q : VK) (E : XK) (h : sp__law_ones K vs H Q E) : t__law_ones K E { nx := fun _ H' => Q .non H', rt := Q } (start ["_law_ends_here", "_law_size_here", "_law_many", "_law_k"] vs) H := by
  obtain ⟨e, n, es, rfl, he, hE, le, n0, q⟩ := h
  have z := rank_cnt hE n.toNat
  rw [Int.toNat_of_nonneg n0] at z
  rw [← z] at q
  walk_at "gx"
  refine for_rng (fun i σ H1 => H1 = H ∧ ∃ (k : Option V), σ = [some (.ref e), some (.int n), some (.int (rankF n (es.take i) 1)), k]) ⟨rfl, none, rfl⟩ ?_ ?_
  · rintro i σ H1 hi ⟨rfl, k, rfl⟩
    have hil : i < es.length := by rw [List.length_map] at hi; omega
    obtain ⟨y, hy⟩ : ∃ y, es[i]? = some y := ⟨_, List.getElem?_eq_getElem hil⟩
    have hyr := hE.2 y (List.mem_of_getElem? hy)
    have ht : es.take (i + 1) = es.take i ++ [y] := by rw [List.take_succ, hy]; rfl
    have hlen : (es.take i).length = i := by rw [List.length_take]; omega
    have st := rankF_snoc n y (es.take i) 1
    rw [← ht, hlen, if_pos hyr.2] at st
    have hyV : (es.map V.int)[i]? = some (.int y) := by rw [List.getElem?_map, hy]; rfl
    walk_at "gx"
    refine ifd (fun h => ?_) (fun h => ?_)
    · have h : (i : Int) % 2 = 0 := h
      rw [if_pos (by omega), Int.mul_one] at st
      walk_at "gx"
      refine S.At.of (atI_nat hyV) ?_
      refine ⟨rfl, some (.int i), ?_⟩
      rw [st, show rankF n (es.take i) 1 + (n - y) = rankF n (es.take i) 1 + n - y by omega]
      rfl
    · have h : ¬ (i : Int) % 2 = 0 := h
      rw [if_neg (by omega)] at st
      walk_at "gx"
      refine S.At.of (atI_nat hyV) ?_
      refine ⟨rfl, some (.int i), ?_⟩
      rw [st, show rankF n (es.take i) 1 + (n - y) * (-1) = rankF n (es.take i) 1 - n + y by omega]
      rfl
  · rintro σ H1 ⟨rfl, k, rfl⟩
    rw [List.length_map, show (es.length : Int).toNat = es.length by omega, List.take_length]
    walk_at "gx"
    exact q
end S
namespace S
open PySem PySem.Spec PyProof.Rows L2
end S
-- fn: Bitmap.runs
-- law: k08
-- deps: Bm _law_in
namespace S
open PySem PySem.Spec PyProof.Rows L2
def runsP (n : Int) : List Int → List (Int × Int)
  | [] => []
  | [a] => [(a, n)]
  | a :: b :: r => (a, b) :: runsP n r
def stepR (st : Option Int × List (Int × Int)) (e : Int) : Option Int × List (Int × Int) := match st.1 with
  | none => (some e, st.2)
  | some s => (none, st.2 ++ [(s, e)])
theorem stepR_runs (n : Int) : ∀ (es : List Int) (acc : List (Int × Int)), (match (es.foldl stepR (none, acc)).1 with | none => (es.foldl stepR (none, acc)).2 | some s => (es.foldl stepR (none, acc)).2 ++ [(s, n)]) = acc ++ runsP n es
  | [], acc => (List.append_nil acc).symm
  | [a], acc => rfl
  | a :: b :: r, acc => by
    have ih := stepR_runs n r (acc ++ [(a, b)])
    rw [List.append_assoc] at ih
    exact ih
theorem stepR_len : ∀ (es : List Int) (o : Option Int) (acc : List (Int × Int)), (es.foldl stepR (o, acc)).2.length ≤ acc.length + es.length
  | [], _, _ => Nat.le_refl _
  | e :: r, none, acc => by have := stepR_len r (some e) acc; show (r.foldl stepR (some e, acc)).2.length ≤ _; rw [List.length_cons]; omega
  | e :: r, some s, acc => by have := stepR_len r none (acc ++ [(s, e)]); show (r.foldl stepR (none, acc ++ [(s, e)])).2.length ≤ _; rw [List.length_append] at this; rw [List.length_cons]; simp at this; omega
def vOI (o : Option Int) : V := match o with
  | none => .non
  | some i => .int i
end S
namespace S
open PySem PySem.Spec PyProof.Rows L2
def tF_Bitmap_runs_b1 (K : Frag) (E : XK) (Kc : TurnK) : TGn :=
    tGIf (dCmpT oIsN (dVar 1) (tC .non)) (tPlain (tAsg (dVar 2) (gName 1))) (tGThen (tFYield Kc (dTup K (tCons (dVar 1) (tCons (dVar 2) (tNil)))))
    (tPlain (tAsg (tC .non) (gName 1))))
def tF_Bitmap_runs_2 (K : Frag) (E : XK) (Kc : TurnK) : TGn :=
    tGIf (dCmpT oNotN (dVar 1) (tC .non)) (tFYield Kc (dTup K (tCons (dVar 1) (tCons (dAt K "size" (dVar 0)) (tNil))))) (tG0)
def tF_Bitmap_runs_1 (K : Frag) (E : XK) (Kc : TurnK) : TGn :=
    tGThen (dGFor (iSeq K (dAt K "ends" (dVar 0))) (gName 2) (tF_Bitmap_runs_b1 K E Kc))
    (gstop (tF_Bitmap_runs_2 K E Kc))
def tF_Bitmap_runs (K : Frag) (E : XK) (Kc : TurnK) : TGn :=
    tGThen (tPlain (tAsg (tC .non) (gName 1)))
    (gstop (tF_Bitmap_runs_1 K E Kc))
end S
-- fnF: Bitmap.runs
-- law: k06
-- deps: Bitmap_runs
namespace S
open PySem PySem.Spec PyProof.Rows L2
theorem stepR_mono : ∀ (es : List Int) (st : Option Int × List (Int × Int)), ∃ r, (es.foldl stepR st).2 = st.2 ++ r
  | [], st => ⟨[], (List.append_nil _).symm⟩
  | e :: r, (none, acc) => stepR_mono r (some e, acc)
  | e :: r, (some s, acc) => by
    obtain ⟨r', h⟩ := stepR_mono r (none, acc ++ [(s, e)])
    exact ⟨(s, e) :: r', by show (r.foldl stepR (none, acc ++ [(s, e)])).2 = _; rw [h, List.append_assoc]; rfl⟩
theorem stepR_pre (n : Int) (es : List Int) (i : Nat) : ∃ r, runsP n es = ((es.take i).foldl stepR (none, [])).2 ++ r := by
  have h := stepR_runs n es []
  rw [List.nil_append] at h
  obtain ⟨r, hr⟩ := stepR_mono (es.drop i) ((es.take i).foldl stepR (none, []))
  rw [← List.foldl_append, List.take_append_drop] at hr
  rw [← h]
  generalize es.foldl stepR (none, []) = st at hr ⊢
  obtain ⟨o, acc⟩ := st
  cases o with
  | none => exact ⟨r, hr⟩
  | some s => exact ⟨r ++ [(s, n)], by show acc ++ [(s, n)] = _; rw [show acc = _ from hr, List.append_assoc]⟩
/-- the runs of a bitmap, handed to a loop -/
def spF_Bitmap_runs (K : Frag) : SpF := fun vs H Kc Q => ∃ (a : Addr) (n : Int) (es : List Int), vs = [.ref a] ∧ Bm K H a n es ∧ es.length ≤ 50000 ∧
  (∀ (ys : List V) (s e : Int) (p : Addr) (H1 : Hp) (post : Hp → Prop), (runsP n es)[ys.length]? = some (s, e) → Same H H1 → SqT K H1 p [.int s, .int e] → (∀ H', Same H1 H' → post H') → Kc ys (.ref p) H1 post) ∧
  ∀ ys H', ys.length = (runsP n es).length → Same H H' → Q ys H'
theorem pureF_Bitmap_runs {K : Frag} (vs : List V) (H : Hp) (Kc : TurnK) (Q : List V → Hp → Prop) (h : spF_Bitmap_runs K vs H Kc Q) : tF_Bitmap_runs K E0 Kc { nx := fun ys _ H' => Q ys H', rt := fun ys v H' => v = .non ∧ Q ys H' } [] (start ["self", "start", "end"] vs) H := by
  obtain ⟨a, n, es, rfl, hb, hl, kc, q⟩ := h
  obtain ⟨cf, _, _, dx, u, sl, hu⟩ := id hb
  refine ⟨?_⟩
  refine Atr.sl cf sl (i := 0) rfl rfl ?_
  refine gfor_seq (K := K) (fun i ys σ H1 => ∃ x2 : Option V, σ = [some (.ref a), some (vOI ((es.take i).foldl stepR (none, [])).1), x2] ∧ Same H H1 ∧ ys.length = ((es.take i).foldl stepR (none, [])).2.length) (.inr hu) ⟨none, rfl, Same.refl _, rfl⟩
    (fun i ys σ H' _ z => let ⟨_, _, e, _⟩ := z; Same.stay e) ?_ ?_
  · rintro i x ys σ H1 hj ⟨x2, rfl, e1, hP⟩
    obtain ⟨e, he, rfl⟩ := map_get hj
    have tk : (es.take (i + 1)).foldl stepR (none, []) = stepR ((es.take i).foldl stepR (none, [])) e := by rw [List.take_succ, he, List.foldl_append]; rfl
    have hln := stepR_len (es.take i) none []
    obtain ⟨rest, hpre⟩ := stepR_pre n es (i + 1)
    have hil : i < es.length := (List.getElem?_eq_some_iff.mp he).1
    rw [List.length_take] at hln
    rw [tk] at hpre ⊢
    generalize (es.take i).foldl stepR (none, []) = st at hP hln hpre ⊢
    obtain ⟨o, acc⟩ := st
    simp only [List.length_nil] at hln
    dsimp only at hP hln
    cases o with
    | none =>
      refine ⟨rfl, ?_⟩
      exact ⟨_, rfl, e1, hP⟩
    | some s =>
      refine ⟨rfl, ?_⟩
      refine ⟨by rw [sizeLine_eq]; omega, ?_⟩
      refine ⟨by show 2 ≤ sizeLine; rw [sizeLine_eq]; decide, ⟨fun t H2 e2 ht => ?_⟩⟩
      have hpre : runsP n es = (acc ++ [(s, e)]) ++ rest := hpre
      refine kc ys s e t H2 _ ?_ (e1.trans e2) ht fun H3 e3 => ?_
      · rw [hpre, hP, List.append_assoc, List.getElem?_append_right (Nat.le_refl _), Nat.sub_self]
        rfl
      · exact ⟨_, rfl, (e1.trans e2).trans e3, by show (ys ++ [_]).length = (acc ++ [(s, e)]).length; rw [List.length_append, List.length_append, hP]; rfl⟩
  · rintro ys σ H1 ⟨x2, rfl, e1, hP⟩
    rw [List.length_map, List.take_length] at hP ⊢
    have hr := stepR_runs n es []
    have hln := stepR_len es none []
    generalize es.foldl stepR (none, []) = st at hP hr hln ⊢
    obtain ⟨o, acc⟩ := st
    simp only [List.length_nil] at hln
    dsimp only at hP hln
    refine ⟨?_⟩
    cases o with
    | none =>
      refine ⟨rfl, ?_⟩
      have hr : acc = runsP n es := hr
      exact q _ _ (by rw [← hr]; exact hP) e1
    | some s =>
      refine ⟨rfl, ?_⟩
      refine ⟨by rw [sizeLine_eq]; omega, ?_⟩
      refine Atr.sl cf (Same.slt e1 sl) (i := 1) rfl rfl ?_
      refine ⟨by show 2 ≤ sizeLine; rw [sizeLine_eq]; decide, ⟨fun t H2 e2 ht => ?_⟩⟩
      have hr : acc ++ [(s, n)] = runsP n es := hr
      refine kc ys s n t H2 _ ?_ (e1.trans e2) ht fun H3 e3 => ?_
      · rw [← hr, hP, List.getElem?_append_right (Nat.le_refl _), Nat.sub_self]
        rfl
      · refine q _ _ ?_ ((e1.trans e2).trans e3)
        rw [← hr, List.length_append, List.length_append, hP]
        rfl
end S
namespace S
open PySem PySem.Spec PyProof.Rows L2
def t_Bitmap_nth_b1_1 (K : Frag) (E : XK) : TS :=
    tAsg (tOp oSub (dVar 2) (tOp oSub (dVar 5) (dVar 4))) (gName 2)
def t_Bitmap_nth_b1 (K : Frag) (E : XK) : TS :=
    tSeq (dIfS (dChainT oLe oLt (tC (.int 0)) (dVar 2) (tOp oSub (dVar 5) (dVar 4))) (tAsg (tOp oAddI (dVar 4) (dVar 2)) (gName 3)) (tNext))
    (stop (t_Bitmap_nth_b1_1 K E))
def t_Bitmap_nth_4 (K : Frag) (E : XK) : TS :=
    tRet (dVar 3)
def t_Bitmap_nth_3 (K : Frag) (E : XK) : TS :=
    tSeq (dForF (tMethFS K "Bitmap" (spF_Bitmap_runs K) (dVar 0)) (gTup K 2 (gCons (gName 4) (gCons (gName 5) (gNil)))) (t_Bitmap_nth_b1 K E))
    (stop (t_Bitmap_nth_4 K E))
def t_Bitmap_nth_2 (K : Frag) (E : XK) : TS :=
    tSeq (tAsg (tC (.int 0)) (gName 3))
    (stop (t_Bitmap_nth_3 K E))
def t_Bitmap_nth_1 (K : Frag) (E : XK) : TS :=
    tSeq (tAsg (dVar 1) (gName 2))
    (stop (t_Bitmap_nth_2 K E))
def t_Bitmap_nth (K : Frag) (E : XK) : TS :=
    tSeq (dIfS (dNot (dChainT oLe oLt (tC (.int 0)) (dVar 1) (dProp K "Bitmap" (sp_Bitmap_ones K) (dVar 0)))) (dGivS (ExF K "NoSuchRank" ["SliceError"]) (dRsI K "NoSuchRank" "number" (WD E) 1)) (tNext))
    (stop (t_Bitmap_nth_1 K E))
end S
-- fn: Bitmap.nth
-- law: k06
-- deps: Bitmap_runsF Bitmap_ones Bitmap_init Bx
namespace S
open PySem PySem.Spec PyProof.Rows L2
/-- one run of the loop: what is left, the row found -/
def nthS (st : Int × Int) (r : Int × Int) : Int × Int := (st.1 - (r.2 - r.1), if 0 ≤ st.1 ∧ st.1 < r.2 - r.1 then r.1 + st.1 else st.2)
theorem nthS_neg : ∀ (R : List (Int × Int)) (k x : Int), k < 0 → (∀ r ∈ R, r.1 < r.2) → (R.foldl nthS (k, x)).2 = x
  | [], _, _, _, _ => rfl
  | r :: R, k, x, hk, h => by
    have hr := h r List.mem_cons_self
    show (R.foldl nthS (nthS (k, x) r)).2 = x
    have e : nthS (k, x) r = (k - (r.2 - r.1), x) := by
      unfold nthS
      rw [if_neg (by dsimp only; omega)]
    rw [e]
    exact nthS_neg R _ x (by omega) fun q hq => h q (List.mem_cons_of_mem _ hq)
theorem runsP_lt {n : Int} : ∀ (es : List Int), es.Pairwise (· < ·) → (∀ e ∈ es, e < n) → ∀ r ∈ runsP n es, r.1 < r.2
  | [], _, _, r, hr => by cases hr
  | [a], _, h, r, hr => by
    rw [List.mem_singleton.mp hr]
    exact h a List.mem_cons_self
  | a :: b :: l, hp, h, r, hr => by
    obtain ⟨h1, h2⟩ := List.pairwise_cons.mp hp
    rcases List.mem_cons.mp hr with e | hr
    · rw [e]
      exact h1 b List.mem_cons_self
    · exact runsP_lt l (List.pairwise_cons.mp h2).2 (fun e he => h e (List.mem_cons_of_mem _ (List.mem_cons_of_mem _ he))) r hr
theorem rankF_late (row : Int) : ∀ (es : List Int) (s : Int), (∀ e ∈ es, row ≤ e) → rankF row es s = 0
  | [], _, _ => rfl
  | e :: r, s, h => by
    show (if e < row then (row - e) * s else 0) + rankF row r (-s) = 0
    rw [if_neg (by have := h e List.mem_cons_self; omega), rankF_late row r (-s) fun x hx => h x (List.mem_cons_of_mem _ hx)]
    rfl
theorem rankF_two (row a b : Int) (es : List Int) : rankF row (a :: b :: es) 1 = (if a < row then row - a else 0) - (if b < row then row - b else 0) + rankF row es 1 := by
  show (if a < row then (row - a) * 1 else 0) + ((if b < row then (row - b) * -1 else 0) + rankF row es (- -1)) = _
  rw [Int.neg_neg, Int.mul_one]
  have e : (if b < row then (row - b) * -1 else 0) = -(if b < row then row - b else 0) := by
    by_cases h : b < row
    · rw [if_pos h, if_pos h]; omega
    · rw [if_neg h, if_neg h]; rfl
  rw [e]
  omega
theorem nth_runs {n : Int} : ∀ (es : List Int) (k x : Int), es.Pairwise (· < ·) → (∀ e ∈ es, e < n) → 0 ≤ k → k < rankF n es 1 →
    (∃ lo ∈ es.head?, lo ≤ ((runsP n es).foldl nthS (k, x)).2) ∧ ((runsP n es).foldl nthS (k, x)).2 < n ∧ inB es ((runsP n es).foldl nthS (k, x)).2 = true ∧ rankF ((runsP n es).foldl nthS (k, x)).2 es 1 = k
  | [], k, x, _, _, k0, k1 => by
    have k1 : k < 0 := k1
    omega
  | [a], k, x, _, hn, k0, k1 => by
    have ha := hn a List.mem_cons_self
    have e1 : rankF n [a] 1 = n - a := by
      show (if a < n then (n - a) * 1 else 0) + 0 = _
      rw [if_pos ha]; omega
    rw [e1] at k1
    have e : ((runsP n [a]).foldl nthS (k, x)).2 = a + k := by
      show (nthS (k, x) (a, n)).2 = _
      unfold nthS
      rw [if_pos (by dsimp only; omega)]
    rw [e]
    refine ⟨⟨a, rfl, by omega⟩, by omega, ?_, ?_⟩
    · rw [inB_cons, if_pos (by omega)]; rfl
    · show (if a < a + k then (a + k - a) * 1 else 0) + 0 = k
      by_cases h : a < a + k
      · rw [if_pos h]; omega
      · rw [if_neg h]; omega
  | a :: b :: l, k, x, hp, hn, k0, k1 => by
    obtain ⟨h1, h2⟩ := List.pairwise_cons.mp hp
    obtain ⟨h3, h4⟩ := List.pairwise_cons.mp h2
    have hab := h1 b List.mem_cons_self
    have hbn := hn b (List.mem_cons_of_mem _ List.mem_cons_self)
    have hln : ∀ e ∈ l, e < n := fun e he => hn e (List.mem_cons_of_mem _ (List.mem_cons_of_mem _ he))
    have hst : (runsP n (a :: b :: l)).foldl nthS (k, x) = (runsP n l).foldl nthS (nthS (k, x) (a, b)) := rfl
    rw [rankF_two, if_pos (by omega), if_pos hbn] at k1
    rw [hst]
    by_cases hk : k < b - a
    · have e : nthS (k, x) (a, b) = (k - (b - a), a + k) := by
        unfold nthS
        rw [if_pos (by dsimp only; omega)]
      have e2 : ((runsP n l).foldl nthS (nthS (k, x) (a, b))).2 = a + k := by
        rw [e]
        exact nthS_neg _ _ _ (by omega) (runsP_lt l h4 hln)
      rw [e2]
      refine ⟨⟨a, rfl, by omega⟩, by omega, ?_, ?_⟩
      · rw [inB_cons, if_pos (by omega), inB_before fun w hw => ?_]
        · rfl
        · rcases List.mem_cons.mp hw with z | z
          · rw [z]; omega
          · have := h3 w z; omega
      · have hb2 : ¬ b < a + k := by omega
        rw [rankF_two, if_neg hb2, rankF_late (a + k) l 1 fun w hw => by have := h3 w hw; omega]
        by_cases h : a < a + k
        · rw [if_pos h]; omega
        · rw [if_neg h]; omega
    · have e : nthS (k, x) (a, b) = (k - (b - a), x) := by
        unfold nthS
        rw [if_neg (by dsimp only; omega)]
      rw [e]
      obtain ⟨⟨lo, hlo, h5⟩, h6, h7, h8⟩ := nth_runs l (k - (b - a)) x h4 hln (by omega) (by omega)
      generalize ((runsP n l).foldl nthS (k - (b - a), x)).2 = r at h5 h6 h7 h8
      have hlo2 : lo ∈ l := List.mem_of_mem_head? hlo
      have hb := h3 lo hlo2
      refine ⟨⟨a, rfl, by omega⟩, h6, ?_, ?_⟩
      · rw [inB_cons, if_pos (by omega), inB_cons, if_pos (by omega), h7]; rfl
      · rw [rankF_two, if_pos (by omega), if_pos (by omega), h8]; omega
def nthW (R : List (Int × Int)) (k : Int) (a : Addr) (ys : List V) (σ : L2.St) : Prop := ∃ x4 x5 : Option V, σ = [some (.ref a), some (.int k), some (.int ((R.take ys.length).foldl nthS (k, 0)).1), some (.int ((R.take ys.length).foldl nthS (k, 0)).2), x4, x5]
theorem nthW_step {R : List (Int × Int)} {k s e l r : Int} {a : Addr} {ys : List V} {v : V} {x4 x5 : Option V} (hg : R[ys.length]? = some (s, e)) (h : nthS ((R.take ys.length).foldl nthS (k, 0)) (s, e) = (l, r)) : nthW R k a (ys ++ [v]) [some (.ref a), some (.int k), some (.int l), some (.int r), x4, x5] := by
  refine ⟨x4, x5, ?_⟩
  rw [List.length_append]
  show _ = [_, _, some (V.int ((R.take (ys.length + 1)).foldl nthS (k, 0)).1), some (V.int ((R.take (ys.length + 1)).foldl nthS (k, 0)).2), _, _]
  rw [List.take_succ, hg, List.foldl_append]
  show _ = [_, _, some (V.int (nthS ((R.take ys.length).foldl nthS (k, 0)) (s, e)).1), some (V.int (nthS ((R.take ys.length).foldl nthS (k, 0)) (s, e)).2), _, _]
  rw [h]
def sp_Bitmap_nth (K : Frag) : Sp := fun vs H Q E => ∃ (a : Addr) (n k : Int) (es : List Int), vs = [.ref a, .int k] ∧ Bm K H a n es ∧ n ≤ 2 * 10 ^ 18 ∧ es.length ≤ 50000 ∧
  (0 ≤ k → k < rankF n es 1 → ∀ r H', Same H H' → 0 ≤ r → r < n → inB es r = true → rankF r es 1 = k → Q (.int r) H') ∧
  (¬ (0 ≤ k ∧ k < rankF n es 1) → XF K "NoSuchRank" → ∀ d H', Same H H' → H' d = none → E (.ref (He.ga K "NoSuchRank")) (some d) (upd H' d (.xd [("number", .int k)])))
theorem pure_Bitmap_nth {K : Frag} (vs : List V) (H : Hp) (Q : VK) (E : XK) (h : sp_Bitmap_nth K vs H Q E) : t_Bitmap_nth K E { nx := fun _ H' => Q .non H', rt := Q } (start ["self", "k", "left", "row", "start", "stop"] vs) H := by
  obtain ⟨a, n, k, es, rfl, hb, n1, hl, good, bad⟩ := h
  obtain ⟨c, n0, hE, dx, p, hs, hp⟩ := id hb
  have raise : ∀ H2, Same H H2 → ¬ (0 ≤ k ∧ k < rankF n es 1) → ∀ D, dGivS (ExF K "NoSuchRank" ["SliceError"]) (dRsI K "NoSuchRank" "number" (WD E) 1) D [some (.ref a), some (.int k), none, none, none, none] H2 := fun H2 e2 hb D xf => ⟨fun d nd => bad hb xf d H2 e2 nd⟩
  walk_at "gx"
  refine ifd (fun k0 => ?_) (fun k0 => raise H (Same.refl _) (fun z => k0 z.1) _)
  refine IsO.of hs ⟨a, n, es, rfl, hb, n1, hl, fun H1 e1 => ?_⟩
  show bIf (!decide (k < rankF n es 1)) _ _
  refine ifn (fun k1 => raise H1 e1 (fun z => k1 z.2) _) (fun k1 => ?_)
  have hb1 := hb.same e1
  walk_at "gx"
  have key := nth_runs es k 0 hE.1 (fun e he => (hE.2 e he).2) k0 k1
  refine ⟨⟨nthW (runsP n es) k a, ⟨none, none, rfl⟩, ?_⟩⟩
  refine IsO.of (Same.slt e1 hs) ⟨a, n, es, rfl, hb1, hl, ?_, ?_⟩
  · rintro ys s e q H2 post hget e2 hq hpost σ1 ⟨x4, x5, rfl⟩
    have step := fun l r (x4 x5 : Option V) (v : V) => nthW_step (k := k) (l := l) (r := r) (a := a) (v := v) (x4 := x4) (x5 := x5) hget
    generalize ((runsP n es).take ys.length).foldl nthS (k, 0) = st at step ⊢
    obtain ⟨left, row⟩ := st
    refine ⟨q, _, rfl, hq, rfl, _, _, rfl, _, _, rfl, rfl, ?_⟩
    refine ifd (fun h1 => ?_) (fun h1 => ?_)
    · show bIf (decide (left < e - s)) _ _
      refine ifd (fun h2 => ?_) (fun h2 => ?_)
      · refine ⟨?_⟩
        exact ⟨step _ _ _ _ _ (by unfold nthS; rw [if_pos ⟨h1, h2⟩]), hpost H2 (Same.refl _)⟩
      · refine ⟨?_⟩
        exact ⟨step _ _ _ _ _ (by unfold nthS; rw [if_neg fun z => h2 z.2]), hpost H2 (Same.refl _)⟩
    · refine ⟨?_⟩
      exact ⟨step _ _ _ _ _ (by unfold nthS; rw [if_neg fun z => h1 z.1]), hpost H2 (Same.refl _)⟩
  · rintro ys H2 hlen e2 σ1 ⟨x4, x5, rfl⟩
    rw [hlen, List.take_length]
    obtain ⟨⟨lo, hlo, h5⟩, h6, h7, h8⟩ := key
    have l0 := (hE.2 lo (List.mem_of_mem_head? hlo)).1
    refine ⟨?_⟩
    exact good k0 k1 _ H2 (e1.trans e2) (by omega) h6 h7 h8
end S
namespace S
open PySem PySem.Spec PyProof.Rows L2
def t_Bitmap_span_3 (K : Frag) (E : XK) : TS :=
    tRet (dGiv (CF K "Bitmap" ["ends", "size"]) (dMake K "Bitmap" (sp_Bitmapdd_initdd K) (EW E) (tCons (dVar 0) (tCons (dTup K (tCons (dVar 1) (tCons (dVar 2) (tNil)))) (tNil)))))
def t_Bitmap_span_2 (K : Frag) (E : XK) : TS :=
    tSeq (dIfS (dCmpT (oEq K) (dVar 2) (dVar 0)) (tRet (dGiv (CF K "Bitmap" ["ends", "size"]) (dMake K "Bitmap" (sp_Bitmapdd_initdd K) (EW E) (tCons (dVar 0) (tCons (dTup K (tCons (dVar 1) (tNil))) (tNil)))))) (tNext))
    (stop (t_Bitmap_span_3 K E))
def t_Bitmap_span_1 (K : Frag) (E : XK) : TS :=
    tSeq (dIfS (dCmpT (oEq K) (dVar 1) (dVar 2)) (tRet (dGiv (CF K "Bitmap" ["ends", "size"]) (dGiv (EmpT K (V.ref (He.dflAt ("Bitmap", some "__init__") 0 K))) (dMake K "Bitmap" (spD (sp_Bitmapdd_initdd K) [V.ref (He.dflAt ("Bitmap", some "__init__") 0 K)]) (EW E) (tCons (dVar 0) (tNil)))))) (tNext))
    (stop (t_Bitmap_span_2 K E))
def t_Bitmap_span (K : Frag) (E : XK) : TS :=
    tSeq (dIfS (dNot (dChain3T oLe oLe oLe (tC (.int 0)) (dVar 1) (dVar 2) (dVar 0))) (dGivS (ExF K "BadBitmap" ["SliceError"]) (dRaise K "BadBitmap" (WD E))) (tNext))
    (stop (t_Bitmap_span_1 K E))
end S
-- fn: Bitmap.span
-- law: k08
-- deps: Bitmap_init Bs _law_places
namespace S
open PySem PySem.Spec PyProof.Rows L2
def spanE (n a b : Int) : List Int := if a = b then [] else if b = n then [a] else [a, b]
theorem spanE_ends {n a b : Int} (h0 : 0 ≤ a) (h1 : a ≤ b) (h2 : b ≤ n) : Ends n (spanE n a b) := by
  unfold spanE
  split
  · exact ⟨.nil, fun _ z => nomatch z⟩
  · split
    · exact ⟨List.pairwise_singleton _ _, fun x hx => by rw [List.mem_singleton.mp hx]; omega⟩
    · refine ⟨.cons (fun x hx => by rw [List.mem_singleton.mp hx]; omega) (List.pairwise_singleton _ _), fun x hx => ?_⟩
      simp only [List.mem_cons, List.not_mem_nil, or_false] at hx
      rcases hx with rfl | rfl <;> omega
theorem spanE_in {n a b row : Int} (h1 : a ≤ b) (h2 : b ≤ n) (r1 : row < n) : inB (spanE n a b) row = decide (a ≤ row ∧ row < b) := by
  unfold spanE
  split
  · exact (decide_eq_false (by omega)).symm
  · split
    · show (if a ≤ row then !false else false) = _
      by_cases h : a ≤ row
      · rw [if_pos h, decide_eq_true ⟨h, by omega⟩]; rfl
      · rw [if_neg h, decide_eq_false (by omega)]
    · show (if b ≤ row then !(if a ≤ row then !false else false) else (if a ≤ row then !false else false)) = _
      by_cases h : a ≤ row
      · rw [if_pos h]
        by_cases h2 : b ≤ row
        · rw [if_pos h2, decide_eq_false (by omega)]; rfl
        · rw [if_neg h2, decide_eq_true ⟨h, by omega⟩]; rfl
      · rw [if_neg h, if_neg (by omega), decide_eq_false (by omega)]
def sp_Bitmap_span (K : Frag) : Sp := fun vs H Q E => ∃ (n a b : Int), vs = [.int n, .int a, .int b] ∧ (0 ≤ a ∧ a ≤ b ∧ b ≤ n → ∀ z H', Same H H' → H z = none → Bm K H' z n (spanE n a b) → Q (.ref z) H') ∧ (¬ (0 ≤ a ∧ a ≤ b ∧ b ≤ n) → XF K "BadBitmap" → E (.ref (He.ga K "BadBitmap")) none H)
theorem pure_Bitmap_span {K : Frag} (vs : List V) (H : Hp) (Q : VK) (E : XK) (h : sp_Bitmap_span K vs H Q E) : t_Bitmap_span K E { nx := fun _ H' => Q .non H', rt := Q } (start ["size", "start", "stop"] vs) H := by
  obtain ⟨n, a, b, rfl, good, bad⟩ := h
  by_cases h : 0 ≤ a ∧ a ≤ b ∧ b ≤ n
  · have n0 : 0 ≤ n := by omega
    have hE := spanE_ends h.1 h.2.1 h.2.2
    refine ift h.1 ?_
    refine ift h.2.1 ?_
    refine ifnf h.2.2 ?_
    walk_at "gx"
    refine ifd (fun hab => ?_) (fun hab => ?_)
    · have hab : a = b := hab
      have e0 : spanE n a b = [] := by unfold spanE; rw [if_pos hab]
      refine fun cf => ?_
      rintro ⟨d, hd, hdE⟩
      have key := mk_bitmap (K := K) (H := H) (n := n) (es := []) (p := d) (R := fun z H' => Q (.ref z) H') (E := E) cf (.inr (hdE H)) (fun _ _ z H' e nz hz => good h z H' e nz (by rw [e0]; exact hz)) (fun hb => absurd ⟨n0, .nil, fun _ z => nomatch z⟩ hb)
      rw [hd]
      exact key
    · have hab : ¬ a = b := hab
      walk_at "gx"
      refine ifd (fun hbn => ?_) (fun hbn => ?_)
      · have hbn : b = n := hbn
        have e0 : spanE n a b = [a] := by unfold spanE; rw [if_neg hab, if_pos hbn]
        rw [e0] at hE
        refine fun cf => ?_
        walk_at "gx"
        refine ⟨fun t H1 e1 ht => ?_⟩
        exact mk_bitmap (es := [a]) cf (.inr ht) (fun _ _ z H' e nz hz => good h z H' (e1.trans e) (same_none e1 nz) (by rw [e0]; exact hz)) (fun nb => absurd ⟨n0, hE⟩ nb)
      · have hbn : ¬ b = n := hbn
        have e0 : spanE n a b = [a, b] := by unfold spanE; rw [if_neg hab, if_neg hbn]
        rw [e0] at hE
        refine ⟨fun cf => ?_⟩
        walk_at "gx"
        refine ⟨fun t H1 e1 ht => ?_⟩
        exact mk_bitmap (es := [a, b]) cf (.inr ht) (fun _ _ z H' e nz hz => good h z H' (e1.trans e) (same_none e1 nz) (by rw [e0]; exact hz)) (fun nb => absurd ⟨n0, hE⟩ nb)
  · have out : bIf (decide (0 ≤ a)) (bIf (decide (a ≤ b)) (bIf (!decide (b ≤ n)) (XF K "BadBitmap" → E (.ref (He.ga K "BadBitmap")) none H) (stop (t_Bitmap_span_1 K E) { nx := fun _ H' => Q .non H', rt := Q } [some (.int n), some (.int a), some (.int b)] H)) (XF K "BadBitmap" → E (.ref (He.ga K "BadBitmap")) none H)) (XF K "BadBitmap" → E (.ref (He.ga K "BadBitmap")) none H) := by
      refine ifd (fun h1 => ifd (fun h2 => ?_) fun _ => bad h) fun _ => bad h
      refine ifnt (fun h3 => h ⟨h1, h2, h3⟩) (bad h)
    exact out
end S
-- deps: Bitmap_span Bx Bitmap_nth
/-! ## ranks of rows; the ends of spans -/
namespace S
open PySem PySem.Spec PyProof.Rows L2
theorem cnt_monoP {f : Int → Bool} {a b : Nat} (hab : a ≤ b) : cntF f a ≤ cntF f b := by
  induction b with
  | zero => rw [Nat.le_zero.mp hab]; exact Int.le_refl _
  | succ b ih =>
    by_cases h : a = b + 1
    · rw [h]; exact Int.le_refl _
    · have := ih (by omega)
      show _ ≤ cntF f b + (if f b then 1 else 0)
      split <;> omega
theorem cnt_ltP {f : Int → Bool} {a b : Nat} (hab : a < b) (ha : f a = true) : cntF f a < cntF f b := by
  have h1 := cnt_monoP (f := f) (a := a + 1) (b := b) hab
  have h2 : cntF f (a + 1) = cntF f a + 1 := by
    show cntF f a + (if f a then 1 else 0) = _
    rw [if_pos ha]
  omega
theorem rank_lt {n : Int} {es : List Int} (h : Ends n es) {r s : Int} (r0 : 0 ≤ r) (rs : r < s) (hr : inB es r = true) : rankF r es 1 < rankF s es 1 := by
  obtain ⟨a, rfl⟩ := Int.eq_ofNat_of_zero_le r0
  obtain ⟨b, rfl⟩ := Int.eq_ofNat_of_zero_le (show 0 ≤ s by omega)
  rw [rank_cnt h a, rank_cnt h b]
  exact cnt_ltP (by omega) hr
theorem rank_le {n : Int} {es : List Int} (h : Ends n es) {r s : Int} (r0 : 0 ≤ r) (rs : r ≤ s) : rankF r es 1 ≤ rankF s es 1 := by
  obtain ⟨a, rfl⟩ := Int.eq_ofNat_of_zero_le r0
  obtain ⟨b, rfl⟩ := Int.eq_ofNat_of_zero_le (show 0 ≤ s by omega)
  rw [rank_cnt h a, rank_cnt h b]
  exact cnt_monoP (by omega)
theorem spanE_len {n a b : Int} : (spanE n a b).length ≤ 2 := by
  unfold spanE
  split
  · simp
  · split <;> simp
theorem spanE_memS {n a b z : Int} (h : z ∈ spanE n a b) : z = a ∨ (z = b ∧ b ≠ n) := by
  unfold spanE at h
  split at h
  · exact nomatch h
  · split at h
    · exact .inl (List.mem_singleton.mp h)
    · rename_i hb
      simp only [List.mem_cons, List.not_mem_nil, or_false] at h
      rcases h with h | h
      · exact .inl h
      · exact .inr ⟨h, hb⟩
end S
namespace S
open PySem PySem.Spec PyProof.Rows L2
def t_Bitmap_first_2 (K : Frag) (E : XK) : TS :=
    tRet (tOp (oOwn K "Bitmap" (sp_Bitmapdd_anddd K) E oAnd) (dVar 0) (dStat K (sp_Bitmap_span K) (EW E) (tCons (dAt K "size" (dVar 0)) (tCons (tC (.int 0)) (tCons (dMeth K "Bitmap" (sp_Bitmap_nth K) (EW E) (dVar 0) (tCons (dVar 1) (tNil))) (tNil))))))
def t_Bitmap_first_1 (K : Frag) (E : XK) : TS :=
    tSeq (dIfS (dCmpT oGe (dVar 1) (dProp K "Bitmap" (sp_Bitmap_ones K) (dVar 0))) (tRet (dVar 0)) (tNext))
    (stop (t_Bitmap_first_2 K E))
def t_Bitmap_first (K : Frag) (E : XK) : TS :=
    tSeq (dIfS (dCmpT oLt (dVar 1) (tC (.int 0))) (dGivS (ExF K "NoSuchRank" ["SliceError"]) (dRsI K "NoSuchRank" "number" (WD E) 1)) (tNext))
    (stop (t_Bitmap_first_1 K E))
end S
-- fn: Bitmap.first
-- law: k07
-- own: BitAnd=Bitmap
-- deps: Bitmap_nth Bitmap_span Bs Spm0
namespace S
open PySem PySem.Spec PyProof.Rows L2
def sp_Bitmap_first (K : Frag) : Sp := fun vs H Q E => ∃ (a : Addr) (n k : Int) (es : List Int), vs = [.ref a, .int k] ∧ Bm K H a n es ∧ n ≤ 2 * 10 ^ 18 ∧ es.length ≤ 40000 ∧
  (0 ≤ k → ∀ z es' H', Same H H' → Bm K H' z n es' → es'.length ≤ es.length + 2 → (∀ row, 0 ≤ row → row < n → inB es' row = (inB es row && decide (rankF row es 1 < k))) → (∀ x ∈ es', x ∈ es ∨ x = 0 ∨ (0 ≤ x ∧ x < n ∧ inB es x = true ∧ rankF x es 1 = k)) → Q (.ref z) H') ∧
  (¬ 0 ≤ k → XF K "NoSuchRank" → ∀ d, H d = none → E (.ref (He.ga K "NoSuchRank")) (some d) (upd H d (.xd [("number", .int k)])))
theorem pure_Bitmap_first {K : Frag} (vs : List V) (H : Hp) (Q : VK) (E : XK) (h : sp_Bitmap_first K vs H Q E) : t_Bitmap_first K E { nx := fun _ H' => Q .non H', rt := Q } (start ["self", "k"] vs) H := by
  obtain ⟨a, n, k, es, rfl, hb, n1, hl, good, bad⟩ := h
  obtain ⟨cf, n0, hE, dx, p, hs, hp⟩ := id hb
  walk_at "gx"
  refine ifd (fun k0 => ?_) (fun k0 => ?_)
  · exact fun xf => ⟨fun d nd => bad (by omega) xf d nd⟩
  have k0 : 0 ≤ k := by omega
  walk_at "gx"
  refine .of hs ⟨a, n, es, rfl, hb, n1, by omega, fun H1 e1 => ?_⟩
  refine ifd (fun k1 => ?_) (fun k1 => ?_)
  · have k1 : rankF n es 1 ≤ k := k1
    refine good k0 a es H1 e1 (hb.same e1) (by omega) (fun row r0 r1 => ?_) fun x hx => .inl hx
    cases hi : inB es row with
    | false => rfl
    | true =>
      rw [decide_eq_true (Int.lt_of_lt_of_le (rank_lt hE r0 r1 hi) k1)]
      rfl
  · have k1 : k < rankF n es 1 := by
      have k1 : ¬ rankF n es 1 ≤ k := k1
      omega
    have hb1 := hb.same e1
    have hs1 := Same.slt e1 hs
    walk_at "gx"
    refine Atr.sl cf hs1 (i := 1) rfl rfl ?_
    refine .of hs1 ⟨a, n, k, es, rfl, hb1, n1, by omega, fun _ _ r H2 e2 r0 r1 hr hk => ?_, fun nb => absurd ⟨k0, k1⟩ nb⟩
    refine ⟨n, 0, r, rfl, fun _ z H3 e3 _ hz => ?_, fun nb => absurd ⟨Int.le_refl _, r0, by omega⟩ nb⟩
    have hb3 := (hb1.same e2).same e3
    have l2 := spanE_len (n := n) (a := 0) (b := r)
    obtain ⟨_, _, _, dx3, u3, sl3, _⟩ := id hb3
    obtain ⟨_, _, hEz, dxz, uz, slz, _⟩ := id hz
    refine .of sl3 (.of slz ⟨a, z, rfl, n, n, es, spanE n 0 r, hb3, hz, by omega, by omega, fun _ w H4 e4 _ hw => ?_, fun hn => absurd rfl hn⟩)
    refine good k0 w _ H4 (((e1.trans e2).trans e3).trans e4) hw (by have := join_len (r := rAnd) (es := es) (fs := spanE n 0 r); omega) (fun row q0 q1 => ?_) fun x hx => ?_
    · rw [join_in hE hEz rfl, spanE_in r0 (by omega) q1]
      show (inB es row && _) = _
      cases hi : inB es row with
      | false => rfl
      | true =>
        show decide _ = decide _
        rw [decide_eq_decide]
        constructor
        · intro z
          have := rank_lt hE q0 z.2 hi
          omega
        · intro z
          refine ⟨q0, ?_⟩
          by_cases h : row < r
          · exact h
          · have := rank_le hE r0 (show r ≤ row by omega)
            omega
    · rcases sweep_mem hE hEz hx with h | h
      · exact .inl h
      · rcases spanE_memS h with h | ⟨h, _⟩
        · exact .inr (.inl h)
        · subst h
          exact .inr (.inr ⟨r0, r1, hr, hk⟩)
end S
-- deps: Bs Cmp
/-! ## whether a bitmap has a row, as a test -/
namespace S
open PySem PySem.Spec PyProof.Rows L2
end S
namespace S
open PySem PySem.Spec PyProof.Rows L2
def t_Summary_built_b1_3 (K : Frag) (E : XK) : TS :=
    tDrop (dML K mApp (dVar 6) (tCons (dVar 12) (tNil)))
def t_Summary_built_b1_2 (K : Frag) (E : XK) : TS :=
    tSeq (dIfS (dTest K (dVar 9)) (tAsg (tOp (oOwn K "Bitmap" (sp_Bitmapdd_subdd K) E oSub) (dVar 3) (dVar 12)) (gName 12)) (tNext))
    (stop (t_Summary_built_b1_3 K E))
def t_Summary_built_b1_1 (K : Frag) (E : XK) : TS :=
    tSeq (dIfS (dTest K (dVar 8)) (tSeq (tAsg (tOp (oOwn K "Bitmap" (sp_Bitmapdd_subdd K) E oSub) (dVar 3) (dVar 5)) (gName 11))
    (tSeq (tAsg (tOp (oOwn K "Bitmap" (sp_Bitmapdd_ordd K) E oOr) (dVar 5) (dMeth K "Bitmap" (sp_Bitmap_first K) (EW E) (dVar 11) (tCons (tOp (oOwn K "Bitmap" (sp_Bitmapdd_subdd K) E oSub) (dVar 10) (dProp K "Bitmap" (sp_Bitmap_ones K) (dVar 5))) (tNil)))) (gName 12))
    (tSeq (tAsg (tOp (oOwn K "Bitmap" (sp_Bitmapdd_subdd K) E oSub) (tCB cMax2 (tCons (tOp (oIx K) (tOp (oIx K) (dVar 4) (dVar 7)) (tC (.int 0))) (tCons (dProp K "Bitmap" (sp_Bitmap_ones K) (dVar 5)) (tNil)))) (dProp K "Bitmap" (sp_Bitmap_ones K) (dVar 5))) (gName 13))
    (tAsg (tOp (oOwn K "Bitmap" (sp_Bitmapdd_ordd K) E oOr) (dVar 5) (tOp (oOwn K "Bitmap" (sp_Bitmapdd_subdd K) E oSub) (dVar 11) (dMeth K "Bitmap" (sp_Bitmap_first K) (EW E) (dVar 11) (tCons (tOp (oOwn K "Bitmap" (sp_Bitmapdd_subdd K) E oSub) (dProp K "Bitmap" (sp_Bitmap_ones K) (dVar 11)) (dVar 13)) (tNil))))) (gName 5))))) (tSeq (tAsg (dMeth K "Bitmap" (sp_Bitmap_first K) (EW E) (dVar 5) (tCons (dVar 10) (tNil))) (gName 12))
    (tSeq (tAsg (tCB cMin2 (tCons (tOp (oIx K) (tOp (oIx K) (dVar 4) (dVar 7)) (tC (.int 1))) (tCons (dProp K "Bitmap" (sp_Bitmap_ones K) (dVar 5)) (tNil)))) (gName 14))
    (tAsg (tOp (oOwn K "Bitmap" (sp_Bitmapdd_subdd K) E oSub) (dVar 5) (dMeth K "Bitmap" (sp_Bitmap_first K) (EW E) (dVar 5) (tCons (tOp (oOwn K "Bitmap" (sp_Bitmapdd_subdd K) E oSub) (dProp K "Bitmap" (sp_Bitmap_ones K) (dVar 5)) (dVar 14)) (tNil)))) (gName 5)))))
    (stop (t_Summary_built_b1_2 K E))
def t_Summary_built_b1 (K : Frag) (E : XK) : TS :=
    tSeq (tAsg (tOp (oIx K) (dVar 1) (dVar 7)) (gTup K 3 (gCons (gName 8) (gCons (gName 9) (gCons (gName 10) (gNil))))))
    (stop (t_Summary_built_b1_1 K E))
def t_Summary_built_6 (K : Frag) (E : XK) : TS :=
    tRet (dGiv (CF K "Column" ["presence", "size", "slices", "width"]) (dMake K "Column" (sp_Columndd_initdd K) (EW E) (tCons (dVar 3) (tCons (dVar 6) (tNil)))))
def t_Summary_built_5 (K : Frag) (E : XK) : TS :=
    tSeq (tDrop (dML K mRev (dVar 6) tNil))
    (stop (t_Summary_built_6 K E))
def t_Summary_built_4 (K : Frag) (E : XK) : TS :=
    tSeq (dFor (iRngD (tCons (tOp (oOwn K "Bitmap" (sp_Bitmapdd_subdd K) E oSub) (tCB (cLen K) (tCons (dVar 1) (tNil))) (tC (.int 1))) (tCons (tUn uNeg (tC (.int 1))) (tCons (tUn uNeg (tC (.int 1))) (tNil))))) (gName 7) (t_Summary_built_b1 K E))
    (stop (t_Summary_built_5 K E))
def t_Summary_built_3 (K : Frag) (E : XK) : TS :=
    tSeq (tAsg (dLst (tNil)) (gName 6))
    (stop (t_Summary_built_4 K E))
def t_Summary_built_2 (K : Frag) (E : XK) : TS :=
    tSeq (tAsg (dMeth K "Bitmap" (sp_Bitmap_first K) (EW E) (dVar 3) (tCons (dVar 2) (tNil))) (gName 5))
    (stop (t_Summary_built_3 K E))
def t_Summary_built_1 (K : Frag) (E : XK) : TS :=
    tSeq (tAsg (dMethD K "Summary" "ranges" (sp_Summary_ranges K) (EW E) (dVar 0) (tCons (dVar 1) (tNil))) (gName 4))
    (stop (t_Summary_built_2 K E))
def t_Summary_built (K : Frag) (E : XK) : TS :=
    tSeq (tAsg (dStat K (sp_Bitmap_full K) (EW E) (tCons (dAt K "many" (dVar 0)) (tNil))) (gName 3))
    (stop (t_Summary_built_1 K E))
end S
-- fn: Summary.built
-- law: k32
-- own: BitOr=Bitmap Sub=Bitmap
-- deps: Bld2 Bitmap_first Bitmap_empty Bitmap_ops Bx Bs Column_init Summary_bounds1 Nef Lcg turned_law
open PySem PySem.Spec PyProof.Rows L2 S in
local macro_rules | `(tactic| walk_at "sp") => `(tactic| dsimp only [dVar, S.nth, S.onSome, tCons, tNil, tC, dCall, List.set, tSeq, dIfS, dCmpT, tAsg, tRet, tOp, gName, dNot, dTest, dOr, dMeth, dMethD, oOwn, dTup, dProp, dStat, uOwn, tUn, uNeg, tDrop, dLst])
namespace S
open PySem PySem.Spec PyProof.Rows L2
section
variable {K : Frag} {E : XK} {Q : VK} {H W : Hp} {n : Int}
theorem bx_re {x : Addr} {f g : Int → Bool} {m : Nat} {P : List Int} (h : Bx K H x n f m) (e : ∀ r, 0 ≤ r → r < n → f r = g r) (hc : ∀ r, 0 < r → r < n → g r ≠ g (r - 1) → r ∈ P) : Bs K H x n g (0 :: P) := by
  obtain ⟨es, h1, _, h3⟩ := h
  have hf : ∀ r, 0 ≤ r → r < n → inB es r = g r := fun r r0 r1 => (h3 r r0 r1).trans (e r r0 r1)
  exact ⟨es, h1, cut_ends h1.2.2.1 hf hc, hf⟩
theorem bs_bx {x : Addr} {f : Int → Bool} {S : List Int} (h : Bs K H x n f S) : Bx K H x n f S.length := by
  obtain ⟨es, h1, h2, h3⟩ := h
  exact ⟨es, h1, asc_len _ _ h1.2.2.1.1 h2, h3⟩
theorem bx_to {x : Addr} {f : Int → Bool} {m m' : Nat} (h : Bx K H x n f m) (l : m ≤ m') : Bx K H x n f m' := by
  obtain ⟨es, h1, h2, h3⟩ := h
  exact ⟨es, h1, Nat.le_trans h2 l, h3⟩
theorem bx_first32 {b : Addr} {u : Int → Bool} {kw : Int} {m : Nat} (hm : m ≤ 1000) (hn : n ≤ 10 ^ 18) (hu : Bx K W b n u m) (k0 : 0 ≤ kw) (q : ∀ y H', Same W H' → Bx K H' y n (fstK u kw) (m + 2) → Q (.ref y) H') : sp_Bitmap_first K [.ref b, .int kw] W Q E := by
  obtain ⟨es, h1, h2, h3⟩ := hu
  have hE := h1.2.2.1
  refine ⟨b, n, kw, es, rfl, h1, by omega, by omega, fun _ y es' H' e hy ly hr _ => q y H' e ⟨es', hy, by omega, fun row r0 r1 => ?_⟩, fun nb => absurd k0 nb⟩
  rw [hr row r0 r1, h3 row r0 r1]
  unfold fstK
  have z := rank_cnt hE row.toNat
  rw [Int.toNat_of_nonneg r0, cnt_congr row.toNat fun j hj => h3 j (by omega) (by omega)] at z
  rw [z]
theorem bx_is {b : Addr} {u : Int → Bool} {m : Nat} {P : Prop} (h : Bx K W b n u m) (p : P) : IsO K W "Bitmap" b P := by
  obtain ⟨dx, vs, sl⟩ := h.slt
  exact .of sl p
theorem Bx.congr32 {x : Addr} {f g : Int → Bool} {m : Nat} (h : Bx K H x n f m) (e : ∀ r, 0 ≤ r → r < n → f r = g r) : Bx K H x n g m := by
  obtain ⟨es, h1, h2, h3⟩ := h
  exact ⟨es, h1, h2, fun r r0 r1 => (h3 r r0 r1).trans (e r r0 r1)⟩
theorem cy_cut {t : Tri} {r : Int} (h : cyT t r ≠ cyT t (r - 1)) : r ∈ [t.a, t.b, t.c] := by
  refine Classical.byContradiction fun no => h ?_
  simp only [List.mem_cons, List.not_mem_nil, or_false, not_or] at no
  rw [Bool.eq_iff_iff, cy_f, cy_f]
  omega
end
def sp_Summary_built (K : Frag) : Sp := fun vs H Q _ => ∃ (a p : Addr) (many k0 w : Int) (eq : Bool) (cs : List Int) (ys : List V), vs = [.ref a, .ref p, .int k0] ∧ Su K H a many cs ∧ H p = some (.lst ys) ∧ Stps K H (stepsM w eq many cs.length 0 cs) ys ∧ OkB many k0 (stepsM w eq many cs.length 0 cs) ∧ 0 ≤ k0 ∧ k0 ≤ many ∧ 1 ≤ cs.length ∧ cs.length ≤ 60 ∧ many ≤ 10 ^ 18 ∧
  ∀ x H' S, Same H H' → H x = none → S.length = 1 + 7 * cs.length → Cm K H' x many (fun r => some (twos ((List.range cs.length).map fun j => slN many k0 (stepsM w eq many cs.length 0 cs) j r))) S → Q (.ref x) H'
section
variable {K : Frag} {E : XK} {D : L2.Ends} {H W : Hp} {a p ev l d xc : Addr} {n k0 : Int} {T : List Stp} {S : List Int}
abbrev s32 (a p : Addr) (k0 : Int) (ev l xc d : Addr) (j : Int) (ms fl : Bool) (m : Int) (x11 x12 x13 x14 : Option V) : L2.St := [some (.ref a), some (.ref p), some (.int k0), some (.ref ev), some (.ref l), some (.ref xc), some (.ref d), some (.int j), some (.bl ms), some (.bl fl), some (.int m), x11, x12, x13, x14]
/-- one place: the rows that match, the rows chosen next -/
theorem bl_b1 {t : Tri} {ms fl : Bool} {m lo hi : Int} {j : Nat} {zs : List V} {B : List (Int × Int)} {x11 x12 x13 x14 : Option V} (hn : n ≤ 10 ^ 18) (h3 : okT3 n t) (hr : let b := rngF n (lo, hi) (ms, false, m); b.1 ≤ cnT n t ∧ cnT n t ≤ b.2) (l0 : 0 ≤ lo) (lh : lo ≤ hi) (hh : hi ≤ n) (m0 : 0 ≤ m) (m1 : m ≤ n)
    (hev : Bx K W ev n (fun _ => true) 1) (hc : Bx K W xc n (cyT t) 4) (hl : W l = some (.lst zs)) (hB : Bnds K W B zs) (hb : B[j]? = some (lo, hi))
    (k : ∀ mt xc' W' x11 x13 x14, Same W W' → Bx K W' mt n (mtF ms n m t) 12 → Bx K W' xc' n (chF ms n lo hi t) 40 → t_Summary_built_b1_2 K E D (s32 a p k0 ev l xc' d j ms fl m x11 (some (.ref mt)) x13 x14) W') :
    t_Summary_built_b1_1 K E D (s32 a p k0 ev l xc d j ms fl m x11 x12 x13 x14) W := by
  have n0 : 0 ≤ n := by obtain ⟨h1, h2, h3, h4⟩ := h3; omega
  have cc := cnt_cy h3 n.toNat
  have cr := cnt_re h3 n.toNat
  rw [Int.toNat_of_nonneg n0, bel_n h3] at cc cr
  obtain ⟨y, hy, q, rfl, hq⟩ := lcg_to hB hb
  have aty : L2.atI zs ((j : Nat) : Int) = some (.ref q) := L2.atI_nat hy
  cases ms with
  | true =>
    have r1 : max 0 (m + lo - n) ≤ cnT n t := by have := hr.1; unfold rngF at this; rw [if_pos rfl] at this; exact this
    have r2 : cnT n t ≤ min m hi := by have := hr.2; unfold rngF at this; rw [if_pos rfl] at this; exact this
    unfold t_Summary_built_b1_1
    walk_at "sp"
    walk_at "gx"
    refine bx_sub hev hc (by decide) (by decide) fun rs W1 e1 hrs => ?_
    have hc1 := hc.same e1
    refine bx_is hrs ?_
    refine bx_ones hc1 (by decide) (by omega) fun W2 e2 => ?_
    rw [cc]
    dsimp only [oSub, oI0, int2]
    refine bx_first32 (by decide) hn (hrs.same e2) (by omega) fun y W3 e3 hy => ?_
    refine bx_or (hc1.same (e2.trans e3)) hy (by decide) (by decide) fun mt W4 e4 hmt => ?_
    have e14 := ((e1.trans e2).trans e3).trans e4
    have hl4 := e14 _ _ hl
    have hq4 := Same.tup e14 hq
    have hc4 := hc.same e14
    walk_at "gx"
    refine bx_ones hc4 (by decide) (by omega) fun W5 e5 => ?_
    have hc5 := hc4.same e5
    rw [cc]
    walk_at "sp"
    dsimp only [cMax2]
    refine bx_ones hc5 (by decide) (by omega) fun W6 e6 => ?_
    rw [cc]
    dsimp only [oSub, oI0, int2]
    have hc6 := hc5.same e6
    have e16 := (e14.trans e5).trans e6
    have hr6 := hrs.same (((((e2.trans e3).trans e4).trans e5).trans e6))
    refine bx_is hr6 ?_
    refine bx_ones hr6 (by decide) (by omega) fun W7 e7 => ?_
    rw [cr]
    dsimp only [oSub, oI0, int2]
    refine bx_first32 (by decide) hn (hr6.same e7) (by omega) fun y2 W8 e8 hy2 => ?_
    refine bx_sub (hr6.same (e7.trans e8)) hy2 (by decide) (by decide) fun y3 W9 e9 hy3 => ?_
    refine bx_or (hc6.same ((e7.trans e8).trans e9)) hy3 (by decide) (by decide) fun xc' W10 e10 hxc => ?_
    have e69 := ((e7.trans e8).trans e9).trans e10
    refine ⟨?_⟩
    refine k mt xc' W10 _ _ _ (e16.trans e69) ((bx_to (hmt.same ((e5.trans e6).trans e69)) (by decide)).congr32 fun r _ _ => ?_) ((bx_to hxc (by decide)).congr32 fun r _ _ => ?_)
    · unfold mtF; rw [if_pos rfl]
    · unfold chF; rw [if_pos rfl]
  | false =>
    have r1 : max m lo ≤ cnT n t := by have := hr.1; unfold rngF at this; rw [if_neg Bool.false_ne_true] at this; exact this
    unfold t_Summary_built_b1_1
    walk_at "sp"
    refine bx_is hc ?_
    refine bx_first32 (by decide) hn hc m0 fun mt W1 e1 hmt => ?_
    have hl1 := e1 _ _ hl
    have hq1 := Same.tup e1 hq
    have hc1 := hc.same e1
    walk_at "gx"
    refine bx_ones hc1 (by decide) (by omega) fun W2 e2 => ?_
    rw [cc]
    walk_at "sp"
    dsimp only [cMin2]
    have hc2 := hc1.same e2
    refine bx_is hc2 ?_
    refine bx_ones hc2 (by decide) (by omega) fun W3 e3 => ?_
    rw [cc]
    dsimp only [oSub, oI0, int2]
    have hc3 := hc2.same e3
    refine bx_first32 (by decide) hn hc3 (by omega) fun y W4 e4 hy => ?_
    refine bx_sub (hc3.same e4) hy (by decide) (by decide) fun xc' W5 e5 hxc => ?_
    have e25 := ((e2.trans e3).trans e4).trans e5
    refine ⟨?_⟩
    refine k mt xc' W5 _ _ _ (e1.trans e25) ((bx_to (hmt.same e25) (by decide)).congr32 fun r _ _ => ?_) ((bx_to hxc (by decide)).congr32 fun r _ _ => ?_)
    · unfold mtF; rw [if_neg Bool.false_ne_true]
    · unfold chF; rw [if_neg Bool.false_ne_true]
/-- the slice is turned about and handed on -/
theorem bl_b1_2 {ms fl : Bool} {m : Int} {j : Nat} {mt : Addr} {f : Int → Bool} {M : List V} {x11 x13 x14 : Option V} (hev : Bx K W ev n (fun _ => true) 1) (hm : Bx K W mt n f 12) (hd : W d = some (.lst M)) (lM : M.length ≤ 1000)
    (k : ∀ y W' x12, Same W W' → Bx K W' y n (fun r => if fl = true then !(f r) else f r) 20 → D.nx (s32 a p k0 ev l xc d j ms fl m x11 x12 x13 x14) (upd W' d (.lst (M ++ [.ref y])))) :
    t_Summary_built_b1_2 K E D (s32 a p k0 ev l xc d j ms fl m x11 (some (.ref mt)) x13 x14) W := by
  have f3 : ∀ (y : Addr) (W' : Hp), Same W W' → Bx K W' y n (fun r => if fl = true then !(f r) else f r) 20 → t_Summary_built_b1_3 K E D (s32 a p k0 ev l xc d j ms fl m x11 (some (.ref y)) x13 x14) W' := fun y W' e hy => by
    have hd' := e _ _ hd
    unfold t_Summary_built_b1_3
    walk_at "gx"
    exact k y W' _ e hy
  unfold t_Summary_built_b1_2
  cases fl with
  | true =>
    walk_at "sp"
    refine bx_sub hev hm (by decide) (by decide) fun y W1 e1 hy => ?_
    refine ⟨?_⟩
    exact f3 y W1 e1 ((bx_to hy (by decide)).congr32 fun r _ _ => by rw [if_pos rfl]; cases f r <;> rfl)
  | false =>
    walk_at "sp"
    refine ⟨?_⟩
    exact f3 mt W (Same.refl _) ((bx_to hm (by decide)).congr32 fun r _ _ => by rw [if_neg Bool.false_ne_true])
end
theorem mturned_full (n : Int) (n0 : 0 ≤ n) {K : Frag} {H : Hp} {x : Addr} (h : Bm K H x n (mTurned [] n)) : Bx K H x n (fun _ => true) 1 := by
  have hE : Ends n [] := ⟨.nil, fun _ z => nomatch z⟩
  refine ⟨_, h, ?_, fun r r0 r1 => ?_⟩
  · have := turned_len (size := n) (ns := [])
    exact this
  · rw [turned_in hE r0 r1]; rfl
theorem Bx.x32 {K : Frag} {H H' : Hp} {x st : Addr} {n : Int} {f : Int → Bool} {m : Nat} {l : List V} (h : Bx K H x n f m) (e : SameX st H H') (hst : H st = some (.lst l)) : Bx K H' x n f m := let ⟨es, a, b, c⟩ := h; ⟨es, a.x e hst, b, c⟩
theorem Cm.congr32 {K : Frag} {H : Hp} {a : Addr} {n : Int} {f g : Int → Option Int} {S : List Int} (h : Cm K H a n f S) (e : ∀ row, 0 ≤ row → row < n → f row = g row) : Cm K H a n g S := by
  obtain ⟨cf, n0, kn, dx, pr, q, M, sl, ⟨es, b1, b2, b3⟩, hq, bM, ne, lM, num, wide⟩ := h
  exact ⟨cf, n0, kn, dx, pr, q, M, sl, ⟨es, b1, b2, fun row r0 r1 => by rw [b3 row r0 r1]; show (f row).isSome = _; rw [e row r0 r1]⟩, hq, bM, ne, lM, fun row r0 r1 => by rw [num row r0 r1, e row r0 r1], fun hl => by
    obtain ⟨row, r0, r1, hw⟩ := wide hl
    exact ⟨row, r0, r1, by rw [← e row r0 r1]; exact hw⟩⟩
theorem nn32 {H W : Hp} {q : Addr} (e : Same H W) (h : W q = none) : H q = none := by
  cases hq : H q with
  | none => rfl
  | some o => rw [e _ _ hq] at h; cases h
theorem pure_Summary_built {K : Frag} (vs : List V) (H : Hp) (Q : VK) (E : XK) (h : sp_Summary_built K vs H Q E) : t_Summary_built K E { nx := fun _ H' => Q .non H', rt := Q } (start ["self", "steps", "wanted", "every", "ranges", "chosen", "slices", "place", "meets", "flipped", "matching", "rest", "match", "extra", "kept"] vs) H := by
  obtain ⟨a, p, n, k0, w, eq, cs, ys, rfl, hs, hp, hS, ok, k00, k0n, lc1, lc, hn, good⟩ := h
  obtain ⟨sf, okc, _, dx, u, ha, hu⟩ := id hs
  have n0 := ok.n0
  have lT : (stepsM w eq n cs.length 0 cs).length = cs.length := stepsM_len w eq n cs.length cs 0
  obtain ⟨P, hP⟩ : ∃ P : Nat → List Int, ∀ j, j < cs.length → (P j).length = 7 ∧ ∀ r, 0 < r → r < n → slN n k0 (stepsM w eq n cs.length 0 cs) j r ≠ slN n k0 (stepsM w eq n cs.length 0 cs) j (r - 1) → r ∈ P j := by
    refine ⟨fun j => if hj : j < cs.length then (sl_cut ok hj).choose else [], fun j hj => ?_⟩
    dsimp only
    rw [dif_pos hj]
    exact (sl_cut ok hj).choose_spec
  generalize hT : stepsM w eq n cs.length 0 cs = T at *
  walk_at "gx"
  refine Atr.df sf ha rfl ?_
  refine ⟨n, rfl, fun _ ev H1 e1 nev hev => ?_, fun nb => absurd nb (by omega)⟩
  have hev := mturned_full n n0 hev
  have hs1 := hs.same e1
  have ha1 := e1 _ _ ha
  refine ⟨?_⟩
  walk_at "gx"
  refine IsD.of ha1 ⟨a, p, n, cs, T, ys, rfl, hs1, e1 _ _ hp, hS.same e1, by omega, fun l B zs H2 e2 nl hl hB lB hBj => ?_⟩
  have e12 := e1.trans e2
  have hev2 := hev.same e2
  refine ⟨?_⟩
  unfold t_Summary_built_2
  walk_at "sp"
  refine bx_is hev2 ?_
  refine bx_first32 (by decide) hn hev2 k00 fun xc H3 e3 hxc => ?_
  have e13 := e12.trans e3
  have c0 : Bx K H3 xc n (cyT (triN n k0 T 0)) 4 := by
    have c1 : Bs K H3 xc n (cyT (triN n k0 T 0)) (0 :: [(triN n k0 T 0).a, (triN n k0 T 0).b, (triN n k0 T 0).c]) := bx_re hxc (fun r r0 r1 => by
      have cA : cntF (fun _ : Int => true) r.toNat = r := by rw [cnt_all (fun _ => rfl)]; omega
      rw [Bool.eq_iff_iff, cy_f]
      unfold fstK
      rw [cA, Bool.true_and, decide_eq_true_iff]
      show r < k0 ↔ (0 ≤ r ∧ r < k0) ∨ n ≤ r
      omega) (fun r _ _ h => cy_cut h)
    exact bs_bx c1
  refine ⟨?_⟩
  walk_at "gx"
  refine ⟨fun d nd => ?_⟩
  have e4 := same_new (o := .lst ([] : List V)) nd
  have hd : upd H3 d (.lst ([] : List V)) d = some (.lst []) := upd_same
  generalize upd H3 d (.lst ([] : List V)) = H4 at *
  have e14 := e13.trans e4
  have hp4 := e14 _ _ hp
  have lys := (Paired.length hS).symm
  have S1 : (0 :: (List.range cs.length).flatMap P).length = 1 + 7 * cs.length := by
    have : ∀ m, m ≤ cs.length → ((List.range m).flatMap P).length = 7 * m := fun m hm => by
      induction m with
      | zero => rfl
      | succ m ih => rw [List.range_succ, List.flatMap_append, List.length_append, ih (by omega), List.flatMap_singleton, (hP m (by omega)).1]; omega
    rw [List.length_cons, this cs.length (Nat.le_refl _)]; omega
  have nd1 : H d = none := nn32 e13 nd
  refine ⟨?_⟩
  walk_at "gx"
  dsimp only [oOwn, oSub, oI0, int2]
  refine for_rngD (fun i σ W => ∃ (xc : Addr) (M : List Slf) (x7 x8 x9 x10 x11 x12 x13 x14 : Option V), σ = [some (.ref a), some (.ref p), some (.int k0), some (.ref ev), some (.ref l), some (.ref xc), some (.ref d), x7, x8, x9, x10, x11, x12, x13, x14] ∧ Same H3 W ∧ Bx K W xc n (cyT (triN n k0 T i)) 4 ∧ W d = some (.lst (M.map vF)) ∧ M.length = i ∧ ∀ t s, M[t]? = some s → Bs K W s.1 n s.2 (0 :: (List.range cs.length).flatMap P) ∧ s.2 = slN n k0 T (cs.length - 1 - t))
    ⟨xc, [], none, none, none, none, none, none, none, none, rfl, e4, c0.same e4, hd, rfl, fun t s h => by simp at h⟩ ?_ ?_
  · rintro i σ W hi ⟨xc, M, x7, x8, x9, x10, x11, x12, x13, x14, rfl, eW, hcW, hdW, lM, hM⟩
    have il : i < cs.length := by omega
    have ej : (ys.length : Int) - 1 - (i : Int) = ((cs.length - 1 - i : Nat) : Int) := by omega
    rw [ej]
    generalize hj : cs.length - 1 - i = j at *
    obtain ⟨s, hs⟩ : ∃ s, T[j]? = some s := ⟨_, List.getElem?_eq_getElem (by omega)⟩
    obtain ⟨y, hy, q, rfl, hq⟩ := lcg_to hS hs
    obtain ⟨a1, a2, a3, a4, a5, a6⟩ := ok.at hs
    have eti : T.length - 1 - j = i := by omega
    have eti1 : T.length - j = i + 1 := by omega
    rw [eti] at a1 a5 a6
    rw [eti1] at a6
    have bj := hBj j (by omega)
    have e3W := e13.trans eW
    have hpW := e3W _ _ hp
    have hqW := Same.tup e3W hq
    have hlW := eW _ _ (e3 _ _ hl)
    have hBW : Bnds K W B zs := Paired.mapP hB fun _ _ ⟨t, h1, h2⟩ => ⟨t, h1, Same.tup (e3.trans eW) h2⟩
    have hevW := hev2.same (e3.trans eW)
    obtain ⟨ms, fl, m⟩ := s
    have aty : L2.atI ys ((j : Nat) : Int) = some (.ref q) := L2.atI_nat hy
    walk_at "gx"
    refine ⟨q, [.bl ms, .bl fl, .int m], rfl, hqW, rfl, _, _, rfl, _, _, rfl, _, _, rfl, rfl, ?_⟩
    refine ⟨?_⟩
    refine bl_b1 (j := j) (lo := (rgN n T j).1) (hi := (rgN n T j).2) hn a1 a5 a2.1 a2.2.1 a2.2.2 a3 a4 hevW hcW hlW hBW bj fun mt xc' W2 y11 y13 y14 e2' hmt hxc' => ?_
    refine bl_b1_2 (hevW.same e2') hmt (e2' _ _ hdW) (by rw [List.length_map]; omega) fun y W3 y12 e5 hy3 => ?_
    have e25 := e2'.trans e5
    have hxc3 := hxc'.same e5
    have c1 : Bs K W3 xc' n (cyT (triN n k0 T (i + 1))) (0 :: [(triN n k0 T (i + 1)).a, (triN n k0 T (i + 1)).b, (triN n k0 T (i + 1)).c]) := bx_re hxc3 (fun r r0 r1 => by rw [a6]; exact ch_nx a1 a2.1 a2.2.1 a2.2.2 a5 r0 r1) (fun r _ _ h => cy_cut h)
    have hdW3 := e25 _ _ hdW
    have ex : SameX d W3 (upd W3 d (.lst (M.map vF ++ [.ref y]))) := SameX.upd
    have hy4 : Bs K W3 y n (slN n k0 T j) (0 :: P j) := bx_re hy3 (fun r _ _ => by
      rw [slN_at hs, eti]) (hP j (by omega)).2
    refine ⟨xc', M ++ [(y, slN n k0 T j)], _, _, _, _, _, _, _, _, rfl, Same.mut (eW.trans e25) nd, (bs_bx c1).x32 ex hdW3, by rw [List.map_append]; exact upd_same, by rw [List.length_append, lM]; rfl, fun t s ht => ?_⟩
    by_cases htl : t < M.length
    · rw [List.getElem?_append_left htl] at ht
      obtain ⟨g1, g2⟩ := hM t s ht
      exact ⟨(g1.same e25).x ex hdW3, g2⟩
    · have hl := (List.getElem?_eq_some_iff.mp ht).1
      rw [List.length_append, List.length_singleton] at hl
      obtain rfl : t = i := by omega
      rw [List.getElem?_append_right (by omega), lM, Nat.sub_self] at ht
      obtain rfl := Option.some.inj ht
      refine ⟨?_, by rw [hj]⟩
      obtain ⟨es, g1, g2, g3⟩ := hy4.x ex hdW3
      refine ⟨es, g1, fun e he => ?_, g3⟩
      rcases List.mem_cons.mp (g2 e he) with h | h
      · rw [h]; exact List.mem_cons_self
      · exact List.mem_cons_of_mem _ (List.mem_flatMap.mpr ⟨j, List.mem_range.mpr (by omega), h⟩)
  · rintro σ W ⟨xc, M, x7, x8, x9, x10, x11, x12, x13, x14, rfl, eW, hcW, hdW, lM, hM⟩
    have lM : M.length = cs.length := by omega
    refine ⟨?_⟩
    walk_at "gx"
    have ex : SameX d W (upd W d (.lst (M.map vF).reverse)) := SameX.upd
    have hdR : upd W d (.lst (M.map vF).reverse) d = some (.lst (M.reverse.map vF)) := by rw [upd_same, List.map_reverse]
    have hMR : Bss K (upd W d (.lst (M.map vF).reverse)) n (0 :: (List.range cs.length).flatMap P) M.reverse := fun s hs => by
      obtain ⟨t, ht⟩ := List.mem_iff_getElem?.mp (List.mem_reverse.mp hs)
      exact (hM t s ht).1.x ex hdW
    have hevW := (hev2.same (e3.trans eW)).x32 ex hdW
    have kn : Kn (0 :: (List.range cs.length).flatMap P) := ⟨List.mem_cons_self, by rw [S1]; omega⟩
    have eW5 : Same H (upd W d (.lst (M.map vF).reverse)) := Same.mut (e13.trans eW) nd1
    generalize upd W d (.lst (M.map vF).reverse) = W5 at *
    intro cf
    obtain ⟨esv, v1, v2, v3⟩ := hevW
    have hevB : Bs K W5 ev n (fun _ => true) (0 :: (List.range cs.length).flatMap P) := ⟨esv, v1, (fun e he => by
      rcases List.mem_cons.mp (cut_ends (P := []) v1.2.2.1 v3 (fun r _ _ h => absurd rfl h) e he) with h | h
      · rw [h]; exact List.mem_cons_self
      · cases h), v3⟩
    refine mk_column cf hevB (.inl (SqL.of hdR)) hMR (by rw [List.length_reverse]; omega) kn n0 (fun _ x W6 e6 nx hx => ?_) (fun em => absurd (congrArg List.length em) (by rw [List.length_reverse, List.length_nil]; omega))
    refine good x W6 _ (eW5.trans e6) (nn32 eW5 nx) S1 (hx.congr32 fun r r0 r1 => ?_)
    show some (twos (bitsF M.reverse r)) = _
    congr 2
    unfold bitsF
    refine List.ext_getElem? fun j => ?_
    rw [List.getElem?_map, List.getElem?_map]
    by_cases hj : j < cs.length
    · rw [List.getElem?_range hj, List.getElem?_reverse (by omega)]
      obtain ⟨s, hs⟩ : ∃ s, M[M.length - 1 - j]? = some s := ⟨_, List.getElem?_eq_getElem (by omega)⟩
      rw [hs]
      show some (s.2 r) = some (slN n k0 T j r)
      rw [(hM _ s hs).2, show cs.length - 1 - (M.length - 1 - j) = j by omega]
    · rw [List.getElem?_eq_none (by rw [List.length_reverse]; omega), List.getElem?_eq_none (by rw [List.length_range]; omega)]; rfl
end S
namespace S
open PySem PySem.Spec PyProof.Rows L2
def t_Summary_bounds_1 (K : Frag) (E : XK) : TS :=
    tRet (tOp (oIx K) (dMethD K "Summary" "ranges" (sp_Summary_ranges K) (EW E) (dVar 0) (tCons (dMethD K "Summary" "steps" (sp_Summary_steps K) (EW E) (dVar 0) (tCons (dVar 1) (tCons (dVar 2) (tNil)))) (tNil))) (tUn uNeg (tC (.int 1))))
def t_Summary_bounds (K : Frag) (E : XK) : TS :=
    tSeq (dIfS (dTest K (dMethD K "Summary" "outside" (sp_Summary_outside K) (EW E) (dVar 0) (tCons (dVar 1) (tCons (dVar 2) (tNil))))) (tRet (dTup K (tCons (tC (.int 0)) (tCons (tC (.int 0)) (tNil))))) (tNext))
    (stop (t_Summary_bounds_1 K E))
end S
-- fn: Summary.bounds
-- law: k31
-- deps: SuM
namespace S
open PySem PySem.Spec PyProof.Rows L2
def sp_Summary_bounds (K : Frag) : Sp := fun vs H Q _ => ∃ (a : Addr) (number many : Int) (eq : Bool) (cs : List Int), vs = [.ref a, .int number, .bl eq] ∧ Su K H a many cs ∧ cs.length ≤ 900 ∧
  ∀ (t : Addr) (H' : Hp), Same H H' → SqT K H' t [.int (boundsM many cs number eq).1, .int (boundsM many cs number eq).2] → Q (.ref t) H'
theorem pure_Summary_bounds {K : Frag} (vs : List V) (H : Hp) (Q : VK) (E : XK) (h : sp_Summary_bounds K vs H Q E) : t_Summary_bounds K E { nx := fun _ H' => Q .non H', rt := Q } (start ["self", "number", "equal"] vs) H := by
  obtain ⟨a, number, many, eq, cs, rfl, hs, lc, q⟩ := h
  obtain ⟨sf, ok, _, dx, u, ha, hu⟩ := id hs
  unfold boundsM at q
  refine IsD.of ha ?_
  refine ⟨a, number, many, eq, cs, rfl, hs, ?_⟩
  cases ho : outB cs number eq with
  | true =>
    rw [ho, if_pos rfl] at q
    walk_at "gx"
    exact ⟨fun t H1 e1 ht => q t H1 e1 ht⟩
  | false =>
    rw [ho, if_neg Bool.false_ne_true] at q
    refine ⟨?_⟩
    refine IsD.of ha ?_
    refine IsD.of ha ?_
    refine ⟨a, number, many, eq, cs, rfl, hs, fun l ys H1 e1 nl hl hS => ?_⟩
    have lT := stepsM_len (wantM cs number) eq many cs.length cs 0
    refine ⟨a, l, many, cs, _, ys, rfl, hs.same e1, hl, hS, by rw [lT]; omega, fun r B zs H2 e2 nr hr hB lB hBj => ?_⟩
    have lz := hB.length
    obtain ⟨Z, z, rfl⟩ := one_last zs (fun z => by rw [z, List.length_nil, lB] at lz; omega)
    rw [List.length_append, List.length_singleton] at lz
    obtain ⟨b, hb, t, rfl, ht⟩ := paired_get (i := Z.length) hB (by rw [List.getElem?_append_right (Nat.le_refl _), Nat.sub_self]; rfl)
    have eZ : Z.length = (stepsM (wantM cs number) eq many cs.length 0 cs).length := by omega
    have hb2 := hBj Z.length (by omega)
    rw [hb] at hb2
    have hb3 := Option.some.inj hb2
    rw [eZ, List.take_length] at hb3
    rw [hb3] at ht
    have hat : atI (Z ++ [V.ref t]) (-1) = some (V.ref t) := atI_last
    refine Rd.l hr (S.At.of hat ?_)
    exact q t H2 (e1.trans e2) ht
end S
namespace S
open PySem PySem.Spec PyProof.Rows L2
def t_Summary_example_3 (K : Frag) (E : XK) : TS :=
    tRet (dMethD K "Summary" "built" (sp_Summary_built K) (EW E) (dVar 0) (tCons (dMethD K "Summary" "steps" (sp_Summary_steps K) (EW E) (dVar 0) (tCons (dVar 1) (tCons (dVar 3) (tNil)))) (tCons (dVar 2) (tNil))))
def t_Summary_example_2 (K : Frag) (E : XK) : TS :=
    tSeq (dIfS (dTest K (dMethD K "Summary" "outside" (sp_Summary_outside K) (EW E) (dVar 0) (tCons (dVar 1) (tCons (dVar 3) (tNil))))) (tRet (dMethD K "Summary" "built" (sp_Summary_built K) (EW E) (dVar 0) (tCons (dMethD K "Summary" "steps" (sp_Summary_steps K) (EW E) (dVar 0) (tCons (tUn uNeg (dAt K "half" (dVar 0))) (tCons (tC (.bl false)) (tNil)))) (tCons (dAt K "many" (dVar 0)) (tNil))))) (tNext))
    (stop (t_Summary_example_3 K E))
def t_Summary_example_1 (K : Frag) (E : XK) : TS :=
    tSeq (dIfS (dNot (dChainT oLe oLe (dVar 4) (dVar 2) (dVar 5))) (dGivS (ExF K "OutOfReach" ["SliceError"]) (dRsI K "OutOfReach" "number" (WD E) 2)) (tNext))
    (stop (t_Summary_example_2 K E))
def t_Summary_example (K : Frag) (E : XK) : TS :=
    tSeq (tAsg (dMethDK K "Summary" "bounds" 2 1 (sp_Summary_bounds K) (fun vs zs => vs ++ (zs)) (EW E) (dVar 0) (tCons (dVar 1) (tNil)) (tCons (dVar 3) (tNil))) (gTup K 2 (gCons (gName 4) (gCons (gName 5) (gNil)))))
    (stop (t_Summary_example_1 K E))
end S
-- fn: Summary.example
-- law: k32
-- deps: Summary_built Summary_bounds SuM
namespace S
open PySem PySem.Spec PyProof.Rows L2
def exT (many : Int) (cs : List Int) (c : Int) (eq : Bool) : List Stp := if outB cs c eq = true then stepsM (wantM cs (-halfC cs)) false many cs.length 0 cs else stepsM (wantM cs c) eq many cs.length 0 cs
def exK (many : Int) (cs : List Int) (c : Int) (eq : Bool) (k : Int) : Int := if outB cs c eq = true then many else k
/-- the numbers of the example column -/
def exV (many : Int) (cs : List Int) (c : Int) (eq : Bool) (k : Int) (r : Int) : Int := twos ((List.range cs.length).map fun j => slN many (exK many cs c eq k) (exT many cs c eq) j r)
def inBd (many : Int) (cs : List Int) (c : Int) (eq : Bool) (k : Int) : Prop := (boundsM many cs c eq).1 ≤ k ∧ k ≤ (boundsM many cs c eq).2
def sp_Summary_example (K : Frag) : Sp := fun vs H Q E => ∃ (a : Addr) (c k many : Int) (eq : Bool) (cs : List Int), vs = [.ref a, .int c, .int k, .bl eq] ∧ Su K H a many cs ∧ cs.length ≤ 60 ∧ many ≤ 10 ^ 18 ∧
  (inBd many cs c eq k → ∀ x H' S, Same H H' → H x = none → S.length = 1 + 7 * cs.length → Cm K H' x many (fun r => some (exV many cs c eq k r)) S → Q (.ref x) H') ∧
  (¬ inBd many cs c eq k → XF K "OutOfReach" → ∀ H' dd, Same H H' → H' dd = none → E (.ref (He.ga K "OutOfReach")) (some dd) (upd H' dd (.xd [("number", .int k)])))
theorem rgN_all (n : Int) (T : List Stp) : rgN n T T.length = rngM n T := by unfold rgN rngM; rw [List.take_length]
theorem half_pos (cs : List Int) : 0 < halfC cs := Int.pow_pos (by decide)
theorem out_low (cs : List Int) : outB cs (-halfC cs) false = false := by
  have := half_pos cs
  unfold outB
  rw [decide_eq_false (by omega), Bool.false_and, Bool.or_false]
theorem ex_ok {many c k : Int} {cs : List Int} {eq : Bool} (h : okC many cs) (hb : inBd many cs c eq k) : OkB many (exK many cs c eq k) (exT many cs c eq) ∧ 0 ≤ exK many cs c eq k ∧ exK many cs c eq k ≤ many := by
  obtain ⟨b1, b2, b3⟩ := bounds_ok (c := c) (eq := eq) h
  obtain ⟨h1, h2⟩ := hb
  have hc := h.2.2
  unfold exK exT
  cases ho : outB cs c eq with
  | true =>
    rw [if_pos rfl, if_pos rfl]
    have := bounds_low (c := -halfC cs) h (Int.le_refl _)
    unfold boundsM at this
    rw [out_low, if_neg Bool.false_ne_true] at this
    refine ⟨⟨h.1, fun s hs => steps_in hc s hs, ?_, ?_⟩, h.1, Int.le_refl _⟩
    · rw [rgN_all, this]; exact Int.le_refl _
    · rw [rgN_all, this]; exact Int.le_refl _
  | false =>
    rw [if_neg Bool.false_ne_true, if_neg Bool.false_ne_true]
    have e : boundsM many cs c eq = rngM many (stepsM (wantM cs c) eq many cs.length 0 cs) := by unfold boundsM; rw [ho, if_neg Bool.false_ne_true]
    refine ⟨⟨h.1, fun s hs => steps_in hc s hs, ?_, ?_⟩, by omega, by omega⟩
    · rw [rgN_all, ← e]; exact h1
    · rw [rgN_all, ← e]; exact h2
theorem ex_cnt {many c k : Int} {cs : List Int} {eq : Bool} (h : okC many cs) (hb : inBd many cs c eq k) {j : Nat} {d : Int} (hd : cs[j]? = some d) : cntF (slN many (exK many cs c eq k) (exT many cs c eq) j) many.toNat = d := by
  have ok := (ex_ok h hb).1
  unfold exT at ok ⊢
  cases ho : outB cs c eq with
  | true => rw [ho, if_pos rfl] at ok; rw [if_pos rfl]; exact sl_cnt ok hd
  | false => rw [ho, if_neg Bool.false_ne_true] at ok; rw [if_neg Bool.false_ne_true]; exact sl_cnt ok hd
theorem ex_cut {many c k : Int} {cs : List Int} {eq : Bool} (h : okC many cs) (hb : inBd many cs c eq k) {j : Nat} (hj : j < cs.length) : ∃ P : List Int, P.length = 7 ∧ ∀ r, 0 < r → r < many → slN many (exK many cs c eq k) (exT many cs c eq) j r ≠ slN many (exK many cs c eq k) (exT many cs c eq) j (r - 1) → r ∈ P := by
  have ok := (ex_ok h hb).1
  unfold exT at ok ⊢
  cases ho : outB cs c eq with
  | true => rw [ho, if_pos rfl] at ok; rw [if_pos rfl]; exact sl_cut ok hj
  | false => rw [ho, if_neg Bool.false_ne_true] at ok; rw [if_neg Bool.false_ne_true]; exact sl_cut ok hj
/-- so many rows pass -/
theorem ex_pass {many c k : Int} {cs : List Int} {eq : Bool} (h : okC many cs) (hb : inBd many cs c eq k) : cntF (fun r => if eq = true then decide (exV many cs c eq k r = c) else decide (c ≤ exV many cs c eq k r)) many.toNat = k := by
  have n0 := h.1
  have en : ((many.toNat : Nat) : Int) = many := Int.toNat_of_nonneg n0
  have eL : ((List.range cs.length).map fun j => slN many (exK many cs c eq k) (exT many cs c eq) j).map (fun f => cntF f many.toNat) = cs := by
    rw [List.map_map]
    refine List.ext_getElem? fun j => ?_
    rw [List.getElem?_map]
    by_cases hj : j < cs.length
    · obtain ⟨d, hd⟩ : ∃ d, cs[j]? = some d := ⟨_, List.getElem?_eq_getElem hj⟩
      rw [List.getElem?_range hj, hd]
      show some (cntF (slN many (exK many cs c eq k) (exT many cs c eq) j) many.toNat) = _
      rw [ex_cnt h hb hd]
    · rw [List.getElem?_eq_none (by rw [List.length_range]; omega), List.getElem?_eq_none (by omega)]; rfl
  have eV : ∀ r, exV many cs c eq k r = twos (((List.range cs.length).map fun j => slN many (exK many cs c eq k) (exT many cs c eq) j).map fun f => f r) := fun r => by unfold exV; rw [List.map_map]; rfl
  have ne : ((List.range cs.length).map fun j => slN many (exK many cs c eq k) (exT many cs c eq) j) ≠ [] := fun z => h.2.1 (List.length_eq_zero_iff.mp (by have := congrArg List.length z; rw [List.length_map, List.length_range] at this; exact this))
  cases ho : outB cs c eq with
  | true =>
    have bh := bounds_hold (n := many.toNat) (c := c) (eq := eq) ne
    dsimp only at bh
    rw [eL, en] at bh
    have e0 : boundsM many cs c eq = (0, 0) := by unfold boundsM; rw [ho, if_pos rfl]
    obtain ⟨k1, k2⟩ := hb
    rw [e0] at bh k1 k2
    have k1 : (0 : Int) ≤ k := k1
    have k2 : k ≤ (0 : Int) := k2
    simp only [eV]
    obtain ⟨g1, g2⟩ := bh
    have g1 : (0 : Int) ≤ _ := g1
    have g2 : _ ≤ (0 : Int) := g2
    omega
  | false =>
    have ok := (ex_ok h hb).1
    have hk : exK many cs c eq k = k := by unfold exK; rw [ho, if_neg Bool.false_ne_true]
    have hT : exT many cs c eq = stepsM (wantM cs c) eq many cs.length 0 cs := by unfold exT; rw [ho, if_neg Bool.false_ne_true]
    obtain ⟨k0, k1⟩ := (ex_ok h hb).2
    rw [hk] at k0 k1
    rw [hk, hT] at ok
    have hout : ¬ halfC cs ≤ c ∧ (eq = true → -halfC cs ≤ c) := by
      unfold outB at ho
      rw [Bool.or_eq_false_iff] at ho
      refine ⟨of_decide_eq_false ho.1, fun he => ?_⟩
      have := ho.2
      rw [he, Bool.true_and] at this
      have := of_decide_eq_false this
      omega
    have e : ∀ j : Nat, j < many.toNat → (fun r => if eq = true then decide (exV many cs c eq k r = c) else decide (c ≤ exV many cs c eq k r)) j = (fun r : Int => decide (r < k)) j := fun j hj => by
      have hp := sl_all ok (r := (j : Int)) (by omega) (by omega)
      have ll : ((List.range cs.length).map fun i => slN many k (stepsM (wantM cs c) eq many cs.length 0 cs) i (j : Int)).length = cs.length := by rw [List.length_map, List.length_range]
      have pn := pass_num (bs := (List.range cs.length).map fun i => slN many k (stepsM (wantM cs c) eq many cs.length 0 cs) i (j : Int)) (c := c) (eq := eq) (fun z => h.2.1 (List.length_eq_zero_iff.mp (by rw [z] at ll; exact ll.symm))) (by rw [ll]; have := hout.1; unfold halfC at this; omega) (by rw [ll]; exact hout.2)
      rw [ll] at pn
      have ew : max c (-(2 ^ (cs.length - 1))) + 2 ^ (cs.length - 1) = wantM cs c := rfl
      rw [ew, hp] at pn
      show (if eq = true then decide (exV many cs c eq k j = c) else decide (c ≤ exV many cs c eq k j)) = decide ((j : Int) < k)
      rw [pn]
      unfold exV
      rw [hk, hT]
    rw [cnt_congr (g := fun r : Int => decide (r < k)) many.toNat e]
    have cl : ∀ m : Nat, cntF (fun r : Int => decide (r < k)) m = min k m := fun m => by
      induction m with
      | zero => show (0 : Int) = min k 0; omega
      | succ m ih =>
        show cntF _ m + (if decide ((m : Int) < k) = true then 1 else 0) = _
        rw [ih]
        by_cases g : (m : Int) < k
        · rw [decide_eq_true g, if_pos rfl]; omega
        · rw [decide_eq_false g, if_neg Bool.false_ne_true]; omega
    rw [cl, en]; omega
theorem pure_Summary_example {K : Frag} (vs : List V) (H : Hp) (Q : VK) (E : XK) (h : sp_Summary_example K vs H Q E) : t_Summary_example K E { nx := fun _ H' => Q .non H', rt := Q } (start ["self", "number", "wanted", "equal", "least", "greatest"] vs) H := by
  obtain ⟨a, c, k, many, eq, cs, rfl, hs, lc, hn, good, bad⟩ := h
  obtain ⟨sf, okc, _, dx, u, ha, hu⟩ := id hs
  walk_at "gx"
  refine IsD.of ha ?_
  refine ⟨rfl, rfl, ?_⟩
  refine ⟨a, c, many, eq, cs, rfl, hs, by omega, fun t H1 e1 ht => ?_⟩
  refine ⟨t, _, rfl, ht, rfl, _, _, rfl, _, _, rfl, rfl, ?_⟩
  have hs1 := hs.same e1
  have ha1 := e1 _ _ ha
  refine ⟨?_⟩
  have raise : ¬ inBd many cs c eq k → ∀ (D : L2.Ends), D.rt = Q → dGivS (ExF K "OutOfReach" ["SliceError"]) (dRsI K "OutOfReach" "number" (WD E) 2) D [some (.ref a), some (.int c), some (.int k), some (.bl eq), some (.int (boundsM many cs c eq).1), some (.int (boundsM many cs c eq).2)] H1 := fun hb D _ xf => ⟨fun d nd => bad hb xf H1 d e1 nd⟩
  have fin : inBd many cs c eq k → t_Summary_example_2 K E { nx := fun _ H' => Q .non H', rt := Q } [some (.ref a), some (.int c), some (.int k), some (.bl eq), some (.int (boundsM many cs c eq).1), some (.int (boundsM many cs c eq).2)] H1 := fun hb => by
    have hex := ex_ok okc hb
    have g := good hb
    walk_at "gx"
    refine IsD.of ha1 ?_
    refine ⟨a, c, many, eq, cs, rfl, hs1, ?_⟩
    cases ho : outB cs c eq with
    | true =>
      have eT : exT many cs c eq = stepsM (wantM cs (-halfC cs)) false many cs.length 0 cs := by unfold exT; rw [ho, if_pos rfl]
      have eK : exK many cs c eq k = many := by unfold exK; rw [ho, if_pos rfl]
      unfold exV at g
      rw [eT, eK] at hex g
      walk_at "gx"
      refine IsD.of ha1 ?_
      refine IsD.of ha1 ?_
      refine Atr.df sf ha1 rfl ?_
      walk_at "gx"
      refine ⟨a, -halfC cs, many, false, cs, rfl, hs1, fun l ys H2 e2 nl hl hS => ?_⟩
      have ha2 := e2 _ _ ha1
      walk_at "gx"
      refine Atr.df sf ha2 rfl ?_
      walk_at "gx"
      have lc1 : 1 ≤ cs.length := Nat.pos_of_ne_zero fun z => okc.2.1 (List.length_eq_zero_iff.mp z)
      exact ⟨a, l, many, many, wantM cs (-halfC cs), false, cs, ys, rfl, hs1.same e2, hl, hS, hex.1, hex.2.1, hex.2.2, lc1, lc, hn, fun x H3 S e3 nx lS hx => g x H3 S ((e1.trans e2).trans e3) (nn32 (e1.trans e2) nx) lS hx⟩
    | false =>
      have eT : exT many cs c eq = stepsM (wantM cs c) eq many cs.length 0 cs := by unfold exT; rw [ho, if_neg Bool.false_ne_true]
      have eK : exK many cs c eq k = k := by unfold exK; rw [ho, if_neg Bool.false_ne_true]
      unfold exV at g
      rw [eT, eK] at hex g
      refine ⟨?_⟩
      walk_at "gx"
      refine IsD.of ha1 ?_
      refine IsD.of ha1 ?_
      refine ⟨a, c, many, eq, cs, rfl, hs1, fun l ys H2 e2 nl hl hS => ?_⟩
      have ha2 := e2 _ _ ha1
      have lc1 : 1 ≤ cs.length := Nat.pos_of_ne_zero fun z => okc.2.1 (List.length_eq_zero_iff.mp z)
      exact ⟨a, l, many, k, wantM cs c, eq, cs, ys, rfl, hs1.same e2, hl, hS, hex.1, hex.2.1, hex.2.2, lc1, lc, hn, fun x H3 S e3 nx lS hx => g x H3 S ((e1.trans e2).trans e3) (nn32 (e1.trans e2) nx) lS hx⟩
  unfold t_Summary_example_1
  walk_at "gx"
  refine ifd (fun h1 => ?_) (fun h1 => ?_)
  · walk_at "gx"
    dsimp only [isB]
    by_cases h2 : k ≤ (boundsM many cs c eq).2
    · show bIf (!decide (k ≤ (boundsM many cs c eq).2)) _ _
      rw [decide_eq_true h2]
      exact ifb (fun h => absurd h (by decide)) fun _ => ⟨fin ⟨h1, h2⟩⟩
    · show bIf (!decide (k ≤ (boundsM many cs c eq).2)) _ _
      rw [decide_eq_false h2]
      exact ifb (fun _ => raise (fun h => h2 h.2) _ rfl) fun h => absurd h (by decide)
  · dsimp only [isB]
    exact ifb (fun _ => raise (fun h => h1 h.1) _ rfl) fun h => absurd h (by decide)
end S
-- deps: Summary_bounds SuM
namespace S
/-! ## the largest number that so many rows reach -/
/-- so many rows reach v at the least (side 0), at the most (side 1) -/
def kbF (many : Int) (cs : List Int) (side v : Int) : Int := if side = 0 then (boundsM many cs v false).1 else (boundsM many cs v false).2
def kbP (many : Int) (cs : List Int) (k side v : Int) : Prop := many - k ≤ kbF many cs side v
/-- v is the largest one -/
structure RchP (many : Int) (cs : List Int) (k side v : Int) : Prop where
  lo : -halfC cs ≤ v
  hi : v < halfC cs
  yes : kbP many cs k side v
  no : ∀ u, v < u → u < halfC cs → ¬ kbP many cs k side u
theorem half_pos34 (cs : List Int) : 0 < halfC cs := Int.pow_pos (by decide)
theorem kb_down {many : Int} {cs : List Int} {side : Int} (h : okC many cs) {u v : Int} (huv : u ≤ v) : kbF many cs side v ≤ kbF many cs side u := by
  obtain ⟨d, rfl⟩ : ∃ d : Nat, v = u + d := ⟨(v - u).toNat, by omega⟩
  clear huv
  induction d with
  | zero => rw [show u + ((0 : Nat) : Int) = u by omega]; exact Int.le_refl _
  | succ d ih =>
    refine Int.le_trans ?_ ih
    have := bounds_down (c := u + d) h
    rw [show u + ((d + 1 : Nat) : Int) = u + d + 1 by omega]
    unfold kbF
    split
    · exact this.1
    · exact this.2
theorem kb_low {many : Int} {cs : List Int} {side k : Int} (h : okC many cs) (k0 : 0 ≤ k) : kbP many cs k side (-halfC cs) := by
  have := bounds_low (c := -halfC cs) h (Int.le_refl _)
  unfold kbP kbF
  rw [this]
  split
  · show many - k ≤ many; omega
  · show many - k ≤ many; omega
/-- the search: what stands at a turn -/
structure RchI (many : Int) (cs : List Int) (k side num : Int) (stp : Nat) : Prop where
  lo : -halfC cs ≤ num
  hi : num + 2 * stp ≤ halfC cs ∨ (stp = 0 ∧ num < halfC cs)
  yes : kbP many cs k side num
  no : ∀ u, num + 2 * stp ≤ u → num < u → u < halfC cs → ¬ kbP many cs k side u
theorem rch_done {many : Int} {cs : List Int} {k side num : Int} (h : RchI many cs k side num 0) (hh : num < halfC cs) : RchP many cs k side num := ⟨h.lo, hh, h.yes, fun u h1 h2 => h.no u (by omega) h1 h2⟩
end S
-- deps: Rch Summary_example
namespace S
/-! ## the number of an index lies between the bounds -/
structure ColC (n : Int) (cs : List Int) (vl : Int → Int) : Prop where
  n0 : 0 ≤ n
  bd : ∀ c, (boundsM n cs c false).1 ≤ cntF (fun r => decide (c ≤ vl r)) n.toNat ∧ cntF (fun r => decide (c ≤ vl r)) n.toNat ≤ (boundsM n cs c false).2
  rg : ∀ r, -halfC cs ≤ vl r ∧ vl r < halfC cs
/-- v is the number of index k -/
def KthP (n : Int) (vl : Int → Int) (k v : Int) : Prop := cntF (fun r => decide (vl r < v)) n.toNat ≤ k ∧ k < cntF (fun r => decide (vl r ≤ v)) n.toNat
theorem cnt_le34 {f g : Int → Bool} : ∀ n : Nat, (∀ j : Nat, j < n → f j = true → g j = true) → cntF f n ≤ cntF g n
  | 0, _ => Int.le_refl _
  | n + 1, h => by
    have ih := cnt_le34 n fun j hj => h j (by omega)
    show cntF f n + (if f (n : Int) = true then 1 else 0) ≤ cntF g n + (if g (n : Int) = true then 1 else 0)
    cases hf : f (n : Int) with
    | true => rw [h n (by omega) hf]; exact Int.add_le_add_right ih _
    | false =>
      rw [if_neg Bool.false_ne_true]
      split <;> omega
section
variable {n k : Int} {cs : List Int} {vl : Int → Int}
theorem cnt_ge (h : 0 ≤ n) (v : Int) : cntF (fun r => decide (v ≤ vl r)) n.toNat + cntF (fun r => decide (vl r < v)) n.toNat = n := by
  have := cnt_not (fun r => decide (v ≤ vl r)) n.toNat
  have e : (fun r : Int => !decide (v ≤ vl r)) = fun r => decide (vl r < v) := by
    funext r
    by_cases g : v ≤ vl r
    · rw [decide_eq_true g, decide_eq_false (by omega)]; rfl
    · rw [decide_eq_false g, decide_eq_true (by omega)]; rfl
  rw [e] at this
  omega
theorem kth_ge (h : 0 ≤ n) {v u : Int} (hk : KthP n vl k v) (hu : n - k ≤ cntF (fun r => decide (u ≤ vl r)) n.toNat) : u ≤ v := by
  refine Int.not_lt.mp fun hlt => ?_
  have c1 := cnt_ge (vl := vl) h u
  have c2 : cntF (fun r => decide (vl r ≤ v)) n.toNat ≤ cntF (fun r => decide (vl r < u)) n.toNat := cnt_le34 _ fun j _ hj => decide_eq_true (by have := of_decide_eq_true hj; omega)
  have := hk.2
  omega
theorem kth_le (h : 0 ≤ n) {v u : Int} (hk : KthP n vl k v) (hu : cntF (fun r => decide (u ≤ vl r)) n.toNat < n - k) : v < u := by
  refine Int.not_le.mp fun hle => ?_
  have c1 := cnt_ge (vl := vl) h v
  have c2 : cntF (fun r => decide (v ≤ vl r)) n.toNat ≤ cntF (fun r => decide (u ≤ vl r)) n.toNat := cnt_le34 _ fun j _ hj => decide_eq_true (by have := of_decide_eq_true hj; omega)
  have := hk.1
  omega
/-- the number of an index is one of the column's -/
theorem kth_rg (hc : ColC n cs vl) {v : Int} (hk : KthP n vl k v) : -halfC cs ≤ v ∧ v < halfC cs := by
  constructor
  · refine Int.not_lt.mp fun hlt => ?_
    have : cntF (fun r => decide (vl r ≤ v)) n.toNat = 0 := cnt_none (fun r => decide_eq_false (by have := (hc.rg r).1; omega)) _
    have h1 := cnt_ge (vl := vl) hc.n0 (v + 1)
    have h2 := hk.2
    have h3 := hk.1
    have e : cntF (fun r => decide (vl r < v)) n.toNat = 0 := cnt_none (fun r => decide_eq_false (by have := (hc.rg r).1; omega)) _
    omega
  · refine Int.not_le.mp fun hle => ?_
    have e : cntF (fun r => decide (vl r < v)) n.toNat = cntF (fun r => decide (vl r ≤ v)) n.toNat := cnt_congr _ fun j _ => by
      show decide (vl j < v) = decide (vl j ≤ v)
      rw [decide_eq_true (show vl j < v by have := (hc.rg j).2; omega), decide_eq_true (show vl j ≤ v by have := (hc.rg j).2; omega)]
    have h2 := hk.2
    have h3 := hk.1
    omega
theorem low_le (hc : ColC n cs vl) {v w : Int} (hk : KthP n vl k v) (hr : RchP n cs k 0 w) : w ≤ v := by
  refine kth_ge hc.n0 hk ?_
  have h1 := hr.yes
  have h2 := (hc.bd w).1
  unfold kbP kbF at h1
  rw [if_pos rfl] at h1
  omega
theorem le_high (hc : ColC n cs vl) {v w : Int} (hk : KthP n vl k v) (hr : RchP n cs k 1 w) : v ≤ w := by
  by_cases h : w + 1 < halfC cs
  · have h1 := hr.no (w + 1) (by omega) h
    have h2 := (hc.bd (w + 1)).2
    unfold kbP kbF at h1
    rw [if_neg (by decide)] at h1
    have := kth_le hc.n0 hk (u := w + 1) (by omega)
    omega
  · have := (kth_rg hc hk).2
    omega
end
end S
-- deps: Column_ops
/-! ## widths of results -/
namespace S
open PySem PySem.Spec PyProof.Rows L2
end S
namespace S
open PySem PySem.Spec PyProof.Rows L2
def t__law_passing_b1_1 (K : Frag) (E : XK) : TS :=
    dIfS (dOr (dNot (dTest K (dCall (sp__law_is_bitmap K) (EW E) (tCons (dVar 6) (tCons (dVar 1) (tNil)))))) (dCmpT (oNe K) (dCall (sp__law_ones K) (EW E) (tCons (dAt K "ends" (dVar 6)) (tCons (dVar 1) (tNil)))) (tOp (oIx K) (dVar 2) (dVar 5)))) (tRet (tUn uNeg (tC (.int 1)))) (tNext)
def t__law_passing_b1 (K : Frag) (E : XK) : TS :=
    tSeq (tAsg (tOp (oIx K) (dAt K "slices" (dVar 0)) (tCB cMin2 (tCons (dVar 5) (tCons (tOp oSub (dAt K "width" (dVar 0)) (tC (.int 1))) (tNil))))) (gName 6))
    (stop (t__law_passing_b1_1 K E))
def t__law_passing_4 (K : Frag) (E : XK) : TS :=
    tRet (dCall (sp__law_passes K) (EW E) (tCons (dCall (sp__law_numbers K) (EW E) (tCons (dLc (iSeq K (dAt K "slices" (dVar 0))) (gName 6) (tYes) (tCB (cList K) (tCons (dAt K "ends" (dVar 6)) (tNil))) [6]) (tCons (dVar 1) (tNil)))) (tCons (dVar 3) (tCons (dVar 4) (tNil)))))
def t__law_passing_3 (K : Frag) (E : XK) : TS :=
    tSeq (dFor (iRng (tCons (tCB (cLen K) (tCons (dVar 2) (tNil))) (tNil))) (gName 5) (t__law_passing_b1 K E))
    (stop (t__law_passing_4 K E))
def t__law_passing_2 (K : Frag) (E : XK) : TS :=
    tSeq (dIfS (dOr (dNot (dTest K (tCB (cIsi K) (tCons (dAt K "slices" (dVar 0)) (tCons (tC (.ty "tuple")) (tNil)))))) (dOr (dCmpT (oNe K) (tCB (cLen K) (tCons (dAt K "slices" (dVar 0)) (tNil))) (dAt K "width" (dVar 0))) (dCmpT oLt (dAt K "width" (dVar 0)) (tC (.int 1))))) (tRet (tUn uNeg (tC (.int 1)))) (tNext))
    (stop (t__law_passing_3 K E))
def t__law_passing_1 (K : Frag) (E : XK) : TS :=
    tSeq (dIfS (dOr (dNot (dTest K (dCall (sp__law_is_bitmap K) (EW E) (tCons (dAt K "presence" (dVar 0)) (tCons (dVar 1) (tNil)))))) (dCmpT (oNe K) (dCall (sp__law_ones K) (EW E) (tCons (dAt K "ends" (dAt K "presence" (dVar 0))) (tCons (dVar 1) (tNil)))) (dVar 1))) (tRet (tUn uNeg (tC (.int 1)))) (tNext))
    (stop (t__law_passing_2 K E))
def t__law_passing (K : Frag) (E : XK) : TS :=
    tSeq (dIfS (dOr (dNot (dTest K (dGiv (MF K "Column" [] ["object"]) (tCB (cIsi K) (tCons (dVar 0) (tCons (tC (.ref (He.ga K "Column"))) (tNil))))))) (dOr (dCmpT (oNe K) (dAt K "size" (dVar 0)) (dVar 1)) (dOr (dNot (dTest K (dCall (sp__law_is_number K) (EW E) (tCons (dAt K "width" (dVar 0)) (tNil))))) (dCmpT oGt (dAt K "width" (dVar 0)) (tCB (cLen K) (tCons (dVar 2) (tNil))))))) (tRet (tUn uNeg (tC (.int 1)))) (tNext))
    (stop (t__law_passing_1 K E))
end S
-- fn: _law_passing
-- law: k35
-- deps: _law_passes _law_numbers_k35 _law_read_k32 _law_ones _law_is_bitmap _law_is_number Summary_example Kth34 Wid0 Column_at
namespace S
open PySem PySem.Spec PyProof.Rows L2
/-- an example's column: its numbers, its slices -/
structure ExC5 (n : Int) (cs : List Int) (vl : Int → Int) (F : Nat → Int → Bool) : Prop where
  l1 : 1 ≤ cs.length
  l2 : cs.length ≤ 60
  num : ∀ r, vl r = twos ((List.range cs.length).map fun j => F j r)
  cnt : ∀ j c, cs[j]? = some c → cntF (F j) n.toNat = c
  cut : ∀ j, j < cs.length → ∃ P : List Int, P.length = 7 ∧ ∀ r, 0 < r → r < n → F j r ≠ F j (r - 1) → r ∈ P
section
variable {n : Int} {cs : List Int} {vl : Int → Int} {F : Nat → Int → Bool}
theorem ExC5.bit (h : ExC5 n cs vl F) {j : Nat} (hj : j < cs.length) (r : Int) : bitI (vl r) j = F j r := by
  have l1 := h.l1
  have ll : ((List.range cs.length).map fun j => F j r).length = cs.length := by rw [List.length_map, List.length_range]
  rw [h.num r, twos_bit _ j (fun z => by rw [z] at ll; rw [List.length_nil] at ll; omega), ll, show min j (cs.length - 1) = j by omega, List.getElem?_map, List.getElem?_range hj]; rfl
theorem ExC5.bd (h : ExC5 n cs vl F) (r : Int) : -(2 ^ (cs.length - 1) : Int) ≤ vl r ∧ vl r < 2 ^ (cs.length - 1) := by
  have l1 := h.l1
  have ll : ((List.range cs.length).map fun j => F j r).length = cs.length := by rw [List.length_map, List.length_range]
  have := twos_rangeL (bs := (List.range cs.length).map fun j => F j r) (fun z => by rw [z] at ll; rw [List.length_nil] at ll; omega)
  rw [ll] at this
  rw [h.num r]; exact this
end

def sp__law_passing (K : Frag) : Sp := fun vs H Q _ => ∃ (x ct : Addr) (n c : Int) (eq : Bool) (cs S : List Int) (vl : Int → Int) (F : Nat → Int → Bool), vs = [.ref x, .int n, .ref ct, .int c, .bl eq] ∧ Cm K H x n (fun r => some (vl r)) S ∧ H ct = some (.lst (cs.map V.int)) ∧ ExC5 n cs vl F ∧ n ≤ 10 ^ 18 ∧ ∀ H', Same H H' → Q (.int (cntF (fun r => psV c eq (vl r)) n.toNat)) H'
theorem pure__law_passing {K : Frag} (vs : List V) (H : Hp) (Q : VK) (E : XK) (h : sp__law_passing K vs H Q E) : t__law_passing K E { nx := fun _ H' => Q .non H', rt := Q } (start ["_law_x", "_law_many", "_law_counts", "_law_c", "_law_equal", "_law_place", "_law_bitmap"] vs) H := by
  obtain ⟨x, ct, n, c, eq, cs, S, vl, F, rfl, hc, hct, hX, hn, good⟩ := h
  obtain ⟨cf, n0, kn, dx, p, q0, M, sl, bp, hq, bM, ne, lM, num, wide⟩ := id hc
  obtain ⟨pe, pb, ps, pr⟩ := id bp
  obtain ⟨cb, _, pE, dp, up, slp, hup⟩ := id pb
  have lS := kn.len
  have l1 := hX.l1
  have l2 := hX.l2
  have lpe : pe.length ≤ 1000 := by have := asc_len pe S pE.1 ps; omega
  have allp : cntF (inB pe) n.toNat = n := by
    rw [cnt_congr (g := fun _ => true) n.toNat fun j hj => pr j (by omega) (by omega), cnt_all (fun _ => rfl)]
    omega
  have M1 : 1 ≤ M.length := Nat.pos_of_ne_zero fun z => ne (List.eq_nil_of_length_eq_zero z)
  have lMc : M.length ≤ cs.length := by
    by_cases h1 : 1 < M.length
    · obtain ⟨row, _, _, hw⟩ := wide h1
      have hw : Wd M.length (vl row) := hw
      obtain ⟨b1, b2⟩ := hX.bd row
      refine Nat.not_lt.mp fun hlt => ?_
      have hpow : (2 : Int) ^ (cs.length - 1) ≤ 2 ^ (M.length - 2) := by exact_mod_cast Nat.pow_le_pow_right (by decide) (by omega)
      unfold Wd at hw
      omega
    · omega
  have lcs : (cs.map V.int).length = cs.length := List.length_map ..
  have lvM : (M.map vF).length = M.length := List.length_map ..
  walk_at "gx"
  refine fun mf => ?_
  refine isi_cm cf sl ?_
  refine Atr.sl cf sl (i := 1) rfl rfl ?_
  walk_at "gx"
  refine ifnf rfl ?_
  refine Atr.sl cf sl (i := 3) rfl rfl ?_
  walk_at "gx"
  refine ⟨_, rfl, ?_⟩
  refine Atr.sl cf sl (i := 3) rfl rfl ?_
  walk_at "gx"
  refine iff' (by rw [lcs]; omega) ?_
  refine ⟨?_⟩
  walk_at "gx"
  refine Atr.sl cf sl (i := 0) rfl rfl ?_
  walk_at "gx"
  refine ⟨p, n, pe, rfl, pb, ?_⟩
  refine Atr.sl cf sl (i := 0) rfl rfl ?_
  refine Atr.sl cb slp (i := 0) rfl rfl ?_
  walk_at "gx"
  refine ⟨up, n, pe, rfl, .inr hup, pE, lpe, n0, ?_⟩
  rw [allp]
  refine ifnf rfl ?_
  refine ⟨?_⟩
  walk_at "gx"
  refine Atr.sl cf sl (i := 2) rfl rfl ?_
  walk_at "gx"
  refine isi_tup hq ?_
  refine Atr.sl cf sl (i := 2) rfl rfl ?_
  walk_at "gx"
  refine Atr.sl cf sl (i := 3) rfl rfl ?_
  refine ifnf (by rw [lvM]) ?_
  refine Atr.sl cf sl (i := 3) rfl rfl ?_
  walk_at "gx"
  refine iff' (by omega) ?_
  refine ⟨?_⟩
  walk_at "gx"
  rw [lcs]
  refine for_rng (fun j σ W2 => Same H W2 ∧ ∃ (x5 x6 : Option V), σ = [some (.ref x), some (.int n), some (.ref ct), some (.int c), some (.bl eq), x5, x6]) ⟨Same.refl _, none, none, rfl⟩ ?_ ?_
  · rintro j σ W2 hj ⟨e6, x5, x6, rfl⟩
    have hj : j < cs.length := by omega
    obtain ⟨cj, hcj⟩ : ∃ cj, cs[j]? = some cj := ⟨_, List.getElem?_eq_getElem hj⟩
    have ctW := e6 _ _ hct
    have slW := Same.slt e6 sl
    have hqW := Same.tup e6 hq
    obtain ⟨t, ht⟩ : ∃ t, M[min j (M.length - 1)]? = some t := ⟨_, List.getElem?_eq_getElem (by omega)⟩
    have em : min (j : Int) ((M.length : Int) - 1) = ((min j (M.length - 1) : Nat) : Int) := by omega
    have att : L2.atI (M.map vF) ((min j (M.length - 1) : Nat) : Int) = some (vF t) := L2.atI_nat (by rw [List.getElem?_map, ht]; rfl)
    obtain ⟨ez, z1, z2, z3⟩ := id (bM t (List.mem_of_getElem? ht))
    have z1W := z1.same e6
    obtain ⟨cz, _, zE, dz, uz, sz, huz⟩ := id z1W
    have lez : ez.length ≤ 1000 := by have := asc_len ez S zE.1 z2; omega
    have cz' : cntF (inB ez) n.toNat = cj := by
      rw [← hX.cnt j cj hcj]
      refine cnt_congr n.toNat fun i hi => ?_
      rw [z3 i (by omega) (by omega), ← hX.bit hj i]
      have hb := twos_bit (bitsF M i) j (bitsF_neA ne i)
      have hnum : twos (bitsF M i) = vl i := num i (by omega) (by omega)
      rw [hnum, bitsF_lenA] at hb
      rw [hb]
      unfold bitsF
      rw [List.getElem?_map, ht]; rfl
    have atj : L2.atI (cs.map V.int) ((j : Nat) : Int) = some (.int cj) := L2.atI_nat (by rw [List.getElem?_map, hcj]; rfl)
    walk_at "gx"
    refine Atr.sl cf slW (i := 2) rfl rfl ?_
    walk_at "gx"
    refine Atr.sl cf slW (i := 3) rfl rfl ?_
    show oIx K (.ref q0) (.int (min (j : Int) ((M.length : Int) - 1))) W2 _
    rw [em]
    walk_at "gx"
    refine ⟨t.1, n, ez, rfl, z1W, ?_⟩
    dsimp only [dTru, isB]
    refine Atr.sl cz sz (i := 0) rfl rfl ?_
    walk_at "gx"
    refine ⟨uz, n, ez, rfl, .inr huz, zE, lez, n0, ?_⟩
    rw [cz']
    walk_at "gx"
    refine ifnf rfl ?_
    exact ⟨e6, _, _, rfl⟩
  · rintro σ W2 ⟨e6, x5, x6, rfl⟩
    have slW := Same.slt e6 sl
    have hqW := Same.tup e6 hq
    refine ⟨?_⟩
    walk_at "gx"
    refine Atr.sl cf slW (i := 2) rfl rfl ?_
    obtain ⟨T, h1, h2, h3, h4, h5⟩ := (bM.same e6).sli
    rw [h1] at hqW
    have lT : ∀ t ∈ T, t.2.length ≤ 1000 := fun t ht => by have := asc_len t.2 S (h3 t ht).2.2.1.1 (h4 t ht); omega
    refine lc_endsT T (.inr hqW) h3 (by omega) lT (fun _ => rfl) (fun _ => rfl) fun l L H3 nl hl hL eL e3 => ?_
    have lL : L.length = T.length := by have := congrArg List.length eL; simpa using this
    have vL : ∀ row : Nat, row < n.toNat → numL (L.map (·.2)) row = vl row := fun row hr => by
      have := num row (by omega) (by omega)
      rw [← h5 row (by omega) (by omega)] at this
      have this : twos (T.map fun t => inB t.2 row) = vl row := this
      rw [← this, eL]
      unfold numL
      rw [List.map_map]; rfl
    refine ⟨l, n, L, rfl, hl, hL, by omega, fun z => ?_, hn, n0, fun z Z ys H4 e4 nz hz hB hsum hne lZ hnn _ => ?_⟩
    · rw [z] at lL
      have : M = [] := List.eq_nil_of_length_eq_zero (by rw [← h2, ← lL]; rfl)
      exact ne this
    have hS : sZ (psV c eq) Z = cntF (fun r => psV c eq (vl r)) n.toNat := by
      rw [← sZ_flt, hsum (psV c eq)]
      exact cnt_congr n.toNat fun row hr => by rw [vL row hr]
    walk_at "gx"
    refine ⟨z, c, eq, Z, ys, rfl, hz, hB, ?_⟩
    rw [hS]
    exact good _ ((e6.trans e3).trans e4)
end S
namespace S
open PySem PySem.Spec PyProof.Rows L2
def t__law_refused_2 (K : Frag) (E : XK) : TS :=
    tRet (tOp (oEq K) (dVar 4) (dLst (tCons (dVar 2) (tNil))))
def t__law_refused_1 (K : Frag) (E : XK) : TS :=
    tSeq (dGivS (ExF K "OutOfReach" ["SliceError"]) (dTry K "OutOfReach" 5 (fun W1 => tDrop (dMethDK K "Summary" "example" 3 1 (sp_Summary_example K) (fun vs zs => vs ++ (zs)) (WE W1) (dVar 0) (tCons (dVar 1) (tCons (dVar 2) (tNil))) (tCons (dVar 3) (tNil)))) (fun a1 cls1 d1 => tAsg (dLst (tCons (dXf K a1 cls1 d1 "OutOfReach" "number" (dVar 5)) (tNil))) (gName 4)) (WD E)))
    (stop (t__law_refused_2 K E))
def t__law_refused (K : Frag) (E : XK) : TS :=
    tSeq (tAsg (dLst (tNil)) (gName 4))
    (stop (t__law_refused_1 K E))
end S
-- fn: _law_refused
-- law: k35
-- deps: Summary_example D1
namespace S
open PySem PySem.Spec PyProof.Rows L2
def sp__law_refused (K : Frag) : Sp := fun vs H Q _ => ∃ (a : Addr) (c k many : Int) (eq : Bool) (cs : List Int), vs = [.ref a, .int c, .int k, .bl eq] ∧ Su K H a many cs ∧ cs.length ≤ 60 ∧ many ≤ 10 ^ 18 ∧ ¬ inBd many cs c eq k ∧ ∀ H', Same H H' → Q (.bl true) H'
theorem pure__law_refused {K : Frag} (vs : List V) (H : Hp) (Q : VK) (E : XK) (h : sp__law_refused K vs H Q E) : t__law_refused K E { nx := fun _ H' => Q .non H', rt := Q } (start ["_law_summary", "_law_c", "_law_wanted", "_law_equal", "_law_told", "e"] vs) H := by
  obtain ⟨a, c, k, many, eq, cs, rfl, hs, lc, hn, hk, q⟩ := h
  walk_at "gx"
  refine ⟨fun t0 nt0 => ?_⟩
  have e1 : Same H (upd H t0 (.lst [])) := same_new nt0
  have hs1 := hs.same e1
  obtain ⟨sf0, okc, _, dx, u, ha, hu⟩ := id hs1
  walk_at "gx"
  refine fun sf => ?_
  refine IsD.of ha ?_
  refine ⟨rfl, rfl, ?_⟩
  refine ⟨a, c, k, many, eq, cs, rfl, hs1, lc, hn, fun hb => absurd hb hk, fun _ xf H2 d e2 nd => ?_⟩
  refine hdl_yes (by rw [mf_exm xf.mf sf.mf (by decide)] <;> first | rfl | decide) fun ea hea => ?_
  have e3 := (e1.trans e2).trans (same_new (o := .xd [("number", .int k)]) nd)
  refine ⟨d, [("number", .int k)], .int k, rfl, rfl, rfl, upd_same, rfl, ?_⟩
  walk_at "gx"
  refine ⟨fun t2 nt2 => ?_⟩
  walk_at "gx"
  refine ⟨fun t3 nt3 => ?_⟩
  have e4 := (e3.trans (same_new (o := .lst [.int k]) nt2)).trans (same_new (o := .lst [.int k]) nt3)
  refine eqd_ll (xs := [k]) (ys := [k]) (SqL.of (same_new nt3 _ _ upd_same)) (SqL.of upd_same) ?_
  rw [decide_eq_true rfl]
  exact q _ e4
end S
namespace S
open PySem PySem.Spec PyProof.Rows L2
def t_Summary_reach_b1_1 (K : Frag) (E : XK) : TS :=
    tAsg (tOp oFdiv (dVar 4) (tC (.int 2))) (gName 4)
def t_Summary_reach_b1 (K : Frag) (E : XK) : TS :=
    tSeq (dIfS (dCmpT oGe (tOp (oIx K) (dMethD K "Summary" "bounds" (spD (sp_Summary_bounds K) [V.bl false]) (EW E) (dVar 0) (tCons (tOp (oAdd K) (dVar 3) (dVar 4)) (tNil))) (dVar 2)) (tOp oSub (dAt K "many" (dVar 0)) (dVar 1))) (tAsg (tOp (oAdd K) (dVar 3) (dVar 4)) (gName 3)) (tNext))
    (stop (t_Summary_reach_b1_1 K E))
def t_Summary_reach_3 (K : Frag) (E : XK) : TS :=
    tRet (dVar 3)
def t_Summary_reach_2 (K : Frag) (E : XK) : TS :=
    tSeq (dWhile (dCmpT oGt (dVar 4) (tC (.int 0))) (t_Summary_reach_b1 K E))
    (stop (t_Summary_reach_3 K E))
def t_Summary_reach_1 (K : Frag) (E : XK) : TS :=
    tSeq (tAsg (dAt K "half" (dVar 0)) (gName 4))
    (stop (t_Summary_reach_2 K E))
def t_Summary_reach (K : Frag) (E : XK) : TS :=
    tSeq (tAsg (tUn uNeg (dAt K "half" (dVar 0))) (gName 3))
    (stop (t_Summary_reach_1 K E))
end S
-- fn: Summary.reach
-- law: k34
-- deps: Rch Summary_bounds SuM
namespace S
open PySem PySem.Spec PyProof.Rows L2
def sp_Summary_reach (K : Frag) : Sp := fun vs H Q _ => ∃ (a : Addr) (k side many : Int) (cs : List Int), vs = [.ref a, .int k, .int side] ∧ Su K H a many cs ∧ cs.length ≤ 60 ∧ 0 ≤ k ∧ (side = 0 ∨ side = 1) ∧
  ∀ v H', Same H H' → RchP many cs k side v → Q (.int v) H'
theorem pure_Summary_reach {K : Frag} (vs : List V) (H : Hp) (Q : VK) (E : XK) (h : sp_Summary_reach K vs H Q E) : t_Summary_reach K E { nx := fun _ H' => Q .non H', rt := Q } (start ["self", "k", "side", "number", "step"] vs) H := by
  obtain ⟨a, k, side, many, cs, rfl, hs, lc, k0, hsd, good⟩ := h
  obtain ⟨sf, okc, _, dx, u, ha, hu⟩ := id hs
  have hh : ((2 ^ (cs.length - 1) : Nat) : Int) = halfC cs := by unfold halfC; exact Int.natCast_pow 2 _
  walk_at "gx"
  refine Atr.df sf ha rfl ?_
  refine ⟨?_⟩
  walk_at "gx"
  refine Atr.df sf ha rfl ?_
  refine ⟨?_⟩
  walk_at "gx"
  have e0 : (2 : Int) ^ (cs.length - 1) = ((2 ^ (cs.length - 1) : Nat) : Int) := (Int.natCast_pow 2 _).symm
  rw [e0]
  refine ⟨⟨fun m σ W => ∃ num : Int, σ = [some (.ref a), some (.int k), some (.int side), some (.int num), some (.int (m : Int))] ∧ Same H W ∧ num < halfC cs ∧ RchI many cs k side num m ∧ (m = 0 ∨ ∃ j : Nat, m = 2 ^ j), ⟨2 ^ (cs.length - 1), -((2 ^ (cs.length - 1) : Nat) : Int), rfl, Same.refl _, ?_, ?_, .inr ⟨_, rfl⟩⟩, ?_⟩⟩
  · have := half_pos34 cs
    rw [hh]; omega
  · rw [hh]
    refine ⟨Int.le_refl _, .inl (by rw [hh]; omega), kb_low okc k0, fun u h1 h2 h3 => ?_⟩
    rw [hh] at h1; omega
  · rintro m σ W ⟨num, rfl, eW, hnh, hI, hm⟩
    have hsW := hs.same eW
    have haW := eW _ _ ha
    walk_at "gx"
    refine ifd (fun hpos => ?_) (fun hneg => ?_)
    · walk_at "gx"
      refine IsD.of haW ?_
      refine ⟨a, num + m, many, false, cs, rfl, hsW, by omega, fun t W1 e1 ht => ?_⟩
      have haW1 := e1 _ _ haW
      have ati : L2.atI [V.int (boundsM many cs (num + m) false).1, .int (boundsM many cs (num + m) false).2] side = some (.int (kbF many cs side (num + m))) := by
        unfold kbF
        rcases hsd with rfl | rfl
        · rfl
        · rfl
      walk_at "gx"
      refine Atr.df sf haW1 rfl ?_
      have eh : (m : Int) / 2 = ((m / 2 : Nat) : Int) := by omega
      have mpos : 0 < m := by omega
      have jj : ∃ j, m = 2 ^ j := by
        rcases hm with h | h
        · omega
        · exact h
      obtain ⟨j, hj⟩ := jj
      have hm2 : m / 2 = 0 ∨ ∃ j, m / 2 = 2 ^ j := by
        cases j with
        | zero => left; rw [hj]
        | succ j => right; exact ⟨j, by rw [hj, Nat.pow_succ]; omega⟩
      have m12 : m = 1 ∨ m = 2 * (m / 2) := by
        cases j with
        | zero => left; rw [hj]
        | succ j => right; rw [hj, Nat.pow_succ]; omega
      have hhi : num + 2 * m ≤ halfC cs := by
        rcases hI.hi with h | ⟨h, _⟩
        · exact h
        · omega
      walk_at "gx"
      refine ifd (fun h1 => ?_) (fun h1 => ?_)
      · walk_at "gx"
        refine ⟨m / 2, by omega, num + m, by show _ = [_, _, _, _, some (V.int ((m / 2 : Nat) : Int))]; rw [← eh]; rfl, eW.trans e1, by omega, ⟨by have := hI.lo; omega, ?_, h1, fun u h2 h3 h4 => hI.no u ?_ (by omega) h4⟩, hm2⟩
        · rcases m12 with h | h
          · exact .inr ⟨by omega, by omega⟩
          · exact .inl (by omega)
        · omega
      · refine ⟨?_⟩
        walk_at "gx"
        refine ⟨m / 2, by omega, num, by show _ = [_, _, _, _, some (V.int ((m / 2 : Nat) : Int))]; rw [← eh]; rfl, eW.trans e1, hnh, ⟨hI.lo, ?_, hI.yes, fun u h2 h3 h4 hp => h1 ?_⟩, hm2⟩
        · rcases m12 with h | h
          · exact .inr ⟨by omega, hnh⟩
          · exact .inl (by omega)
        · have := kb_down (side := side) okc (show num + m ≤ u by omega)
          unfold kbP at hp
          show many - k ≤ kbF many cs side (num + m)
          omega
    · obtain rfl : m = 0 := by omega
      refine ⟨?_⟩
      walk_at "gx"
      exact good num W eW (rch_done hI hnh)
end S
namespace S
open PySem PySem.Spec PyProof.Rows L2
def t_Summary_kth_bounds_1 (K : Frag) (E : XK) : TS :=
    tRet (dTup K (tCons (dMethD K "Summary" "reach" (sp_Summary_reach K) (EW E) (dVar 0) (tCons (dVar 1) (tCons (tC (.int 0)) (tNil)))) (tCons (dMethD K "Summary" "reach" (sp_Summary_reach K) (EW E) (dVar 0) (tCons (dVar 1) (tCons (tC (.int 1)) (tNil)))) (tNil))))
def t_Summary_kth_bounds (K : Frag) (E : XK) : TS :=
    tSeq (dIfS (dNot (dChainT oLe oLt (tC (.int 0)) (dVar 1) (dAt K "many" (dVar 0)))) (dGivS (ExF K "NoSuchRank" ["SliceError"]) (dRsI K "NoSuchRank" "number" (WD E) 1)) (tNext))
    (stop (t_Summary_kth_bounds_1 K E))
end S
-- fn: Summary.kth_bounds
-- law: k34
-- deps: Summary_reach
namespace S
open PySem PySem.Spec PyProof.Rows L2
def sp_Summary_kth_bounds (K : Frag) : Sp := fun vs H Q E => ∃ (a : Addr) (k many : Int) (cs : List Int), vs = [.ref a, .int k] ∧ Su K H a many cs ∧ cs.length ≤ 60 ∧
  (0 ≤ k → k < many → ∀ t v u H', Same H H' → RchP many cs k 0 v → RchP many cs k 1 u → SqT K H' t [.int v, .int u] → Q (.ref t) H') ∧
  (¬ (0 ≤ k ∧ k < many) → XF K "NoSuchRank" → ∀ d H', Same H H' → H' d = none → E (.ref (He.ga K "NoSuchRank")) (some d) (upd H' d (.xd [("number", .int k)])))
theorem pure_Summary_kth_bounds {K : Frag} (vs : List V) (H : Hp) (Q : VK) (E : XK) (h : sp_Summary_kth_bounds K vs H Q E) : t_Summary_kth_bounds K E { nx := fun _ H' => Q .non H', rt := Q } (start ["self", "k"] vs) H := by
  obtain ⟨a, k, many, cs, rfl, hs, lc, good, bad⟩ := h
  obtain ⟨sf, okc, _, dx, u, ha, hu⟩ := id hs
  have raise : ¬ (0 ≤ k ∧ k < many) → ∀ (D : L2.Ends), dGivS (ExF K "NoSuchRank" ["SliceError"]) (dRsI K "NoSuchRank" "number" (WD E) 1) D [some (.ref a), some (.int k)] H := fun hb D xf => ⟨fun d nd => bad hb xf d H (Same.refl _) nd⟩
  have fin : 0 ≤ k → k < many → t_Summary_kth_bounds_1 K E { nx := fun _ H' => Q .non H', rt := Q } [some (.ref a), some (.int k)] H := fun k0 k1 => by
    walk_at "gx"
    refine IsD.of ha ?_
    refine ⟨a, k, 0, many, cs, rfl, hs, lc, k0, .inl rfl, fun v H1 e1 hv => ?_⟩
    have ha1 := e1 _ _ ha
    walk_at "gx"
    refine IsD.of ha1 ?_
    refine ⟨a, k, 1, many, cs, rfl, hs.same e1, lc, k0, .inr rfl, fun w H2 e2 hw => ?_⟩
    walk_at "gx"
    exact ⟨fun t H3 e3 ht => good k0 k1 t v w H3 ((e1.trans e2).trans e3) hv hw ht⟩
  walk_at "gx"
  refine ifd (fun h1 => ?_) (fun h1 => ?_)
  · walk_at "gx"
    refine Atr.df sf ha rfl ?_
    dsimp only [isB]
    refine ifn (fun h2 => ?_) (fun h2 => ?_)
    · exact raise (fun h => h2 h.2) _
    · exact ⟨fin h1 h2⟩
  · dsimp only [isB]
    exact ifb (fun _ => raise (fun h => h1 h.1) _) fun h => absurd h (by decide)
end S
namespace S
open PySem PySem.Spec PyProof.Rows L2
end S
-- fn: chosen_rows
-- law: k24
-- own: BitAnd=Bitmap
-- deps: Column_init Cmp Cx
namespace S
open PySem PySem.Spec PyProof.Rows L2
end S
namespace S
open PySem PySem.Spec PyProof.Rows L2
end S
-- fn: total
-- law: k24
-- own: BitAnd=Bitmap
-- deps: chosen_rows Sm Bitmap_ones Column_ops
namespace S
open PySem PySem.Spec PyProof.Rows L2
end S
-- deps: Lcg
/-! ## filtered comprehensions over lists told by pairs -/
namespace S
open PySem PySem.Spec PyProof.Rows L2
/-! ### chosen pieces -/
end S
-- deps: Sm RunL Cx Lc total Tw Lsel
/-! ## sums over runs, totals of counts, chosen pieces -/
namespace S
open PySem PySem.Spec PyProof.Rows L2
/-! ### totals -/
def totF (w : Nat) : Nat → List Int → Int
  | _, [] => 0
  | j, c :: r => wtP w j * c + totF w (j + 1) r
def totC (cs : List Int) : Int := totF cs.length 0 cs
theorem totF_step {w j : Nat} {cs : List Int} {c : Int} (h : cs[j]? = some c) : totF w j (cs.drop j) = wtP w j * c + totF w (j + 1) (cs.drop (j + 1)) := by
  obtain ⟨hj, e⟩ := List.getElem?_eq_some_iff.mp h
  rw [List.drop_eq_getElem_cons hj, e]
  rfl
theorem totF_wsum (w : Nat) (n : Nat) : ∀ (L : List (Int → Bool)) (j : Nat), totF w j (L.map fun f => cntF f n) = wsum w j L n
  | [], _ => rfl
  | f :: L, j => by
    show wtP w j * cntF f n + totF w (j + 1) (L.map fun f => cntF f n) = wtP w j * cntF f n + wsum w (j + 1) L n
    rw [totF_wsum w n L (j + 1)]
end S
namespace S
open PySem PySem.Spec PyProof.Rows L2
def t_Summary_total_b1 (K : Frag) (E : XK) : TS :=
    tAsg (tOp (oAdd K) (dVar 1) (tOp oMulA (dCall (sp_weight_of K) (EW E) (tCons (dVar 2) (tCons (tCB (cLen K) (tCons (dAt K "counts" (dVar 0)) (tNil))) (tNil)))) (dVar 3))) (gName 1)
def t_Summary_total_2 (K : Frag) (E : XK) : TS :=
    tRet (dVar 1)
def t_Summary_total_1 (K : Frag) (E : XK) : TS :=
    tSeq (dFor (iEn K (dAt K "counts" (dVar 0))) (gTup K 2 (gCons (gName 2) (gCons (gName 3) (gNil)))) (t_Summary_total_b1 K E))
    (stop (t_Summary_total_2 K E))
def t_Summary_total (K : Frag) (E : XK) : TS :=
    tSeq (tAsg (tC (.int 0)) (gName 1))
    (stop (t_Summary_total_1 K E))
end S
-- fn: Summary.total
-- law: k30
-- deps: D0 D1 Totl Summary_init
namespace S
open PySem PySem.Spec PyProof.Rows L2
def sp_Summary_total (K : Frag) : Sp := fun vs H Q _ => ∃ (a : Addr) (many : Int) (cs : List Int), vs = [.ref a] ∧ Su K H a many cs ∧ many ≤ 2 * 10 ^ 18 ∧ ∀ H', Same H H' → Q (.int (totC cs)) H'
theorem pure_Summary_total {K : Frag} (vs : List V) (H : Hp) (Q : VK) (E : XK) (h : sp_Summary_total K vs H Q E) : t_Summary_total K E { nx := fun _ H' => Q .non H', rt := Q } (start ["self", "result", "place", "count"] vs) H := by
  obtain ⟨a, many, cs, rfl, hs, hm, q⟩ := h
  obtain ⟨sf, ok, lc, dx, u, ha, hu⟩ := id hs
  walk_at "gx"
  refine Atr.df sf ha rfl ?_
  refine for_en (fun i σ H1 => Same H H1 ∧ ∃ (r : Int) (k1 k2 : Option V), σ = [some (.ref a), some (.int r), k1, k2] ∧ r + totF cs.length i (cs.drop i) = totC cs) hu ⟨Same.refl _, 0, none, none, rfl, by rw [List.drop_zero, Int.zero_add]; rfl⟩ (fun i σ H1 _ z => Same.tup z.1 hu) ?_ ?_
  · rintro i v σ H1 hj ⟨e1, r, k1, k2, rfl, inv⟩ T hT
    obtain ⟨c, hc, rfl⟩ := map_get hj
    have hil : i < cs.length := (List.getElem?_eq_some_iff.mp hc).1
    have hcb := ok.2.2 c (List.mem_of_getElem? hc)
    rw [totF_step hc] at inv
    have eT := same_new (o := .tup [V.int (i : Int), V.int c]) hT
    have e2 := e1.trans eT
    have ha2 := e2 _ _ ha
    refine ⟨T, [.int i, .int c], rfl, SqT.of upd_same, rfl, _, _, rfl, _, _, rfl, rfl, ?_⟩
    walk_at "gx"
    refine Atr.df sf ha2 rfl ?_
    refine Rd.st (Same.tup e2 hu) ?_
    refine ⟨i, cs.length, by rw [List.length_map], by omega, ?_⟩
    walk_at "gx"
    refine ⟨e2, _, _, _, rfl, ?_⟩
    rw [← inv]
    show r + wtP cs.length i * c + _ = _
    omega
  · rintro σ H1 ⟨e1, r, k1, k2, rfl, inv⟩
    rw [List.length_map, List.drop_length] at inv
    have inv : r + 0 = totC cs := inv
    walk_at "gx"
    rw [← Int.add_zero r, inv]
    exact q H1 e1
end S
namespace S
open PySem PySem.Spec PyProof.Rows L2
def t__law_size_5 (K : Frag) (E : XK) : TS :=
    tRet (tOp (oAdd K) (dCall (sp__law_wide K) (EW E) (tCons (dVar 0) (tCons (dVar 1) (tCons (tOp oPow (tC (.int 10)) (tC (.int 18))) (tNil))))) (tC (.int 1)))
def t__law_size_4 (K : Frag) (E : XK) : TS :=
    tSeq (dIfS (dCmpT (oEq K) (dVar 2) (tC (.int 3))) (tRet (tOp oSub (tOp oPow (tC (.int 10)) (tC (.int 18))) (dCall (sp__law_draw K) (EW E) (tCons (dVar 0) (tCons (dVar 1) (tCons (tC (.int 1000)) (tNil))))))) (tNext))
    (stop (t__law_size_5 K E))
def t__law_size_3 (K : Frag) (E : XK) : TS :=
    tSeq (dIfS (dCmpT (oEq K) (dVar 2) (tC (.int 2))) (tRet (dCall (sp__law_draw K) (EW E) (tCons (dVar 0) (tCons (dVar 1) (tCons (tC (.int 61)) (tNil)))))) (tNext))
    (stop (t__law_size_4 K E))
def t__law_size_2 (K : Frag) (E : XK) : TS :=
    tSeq (dIfS (dCmpT (oEq K) (dVar 2) (tC (.int 1))) (tRet (dCall (sp__law_draw K) (EW E) (tCons (dVar 0) (tCons (dVar 1) (tCons (tC (.int 13)) (tNil)))))) (tNext))
    (stop (t__law_size_3 K E))
def t__law_size_1 (K : Frag) (E : XK) : TS :=
    tSeq (dIfS (dCmpT (oEq K) (dVar 2) (tC (.int 0))) (tRet (dCall (sp__law_draw K) (EW E) (tCons (dVar 0) (tCons (dVar 1) (tCons (tC (.int 4)) (tNil)))))) (tNext))
    (stop (t__law_size_2 K E))
def t__law_size (K : Frag) (E : XK) : TS :=
    tSeq (tAsg (dCall (sp__law_draw K) (EW E) (tCons (dVar 0) (tCons (dVar 1) (tCons (tC (.int 6)) (tNil))))) (gName 2))
    (stop (t__law_size_1 K E))
end S
-- fn: _law_size
-- law: k03
-- deps: D0 _law_wide
namespace S
open PySem PySem.Spec PyProof.Rows L2
/-- a size from 0 to 10 ** 18 -/
def sp__law_size (K : Frag) : Sp := fun vs H Q _ => ∃ (a st : Addr), vs = [.ref a, .ref st] ∧ Ctx K H a st ∧
  ∀ (r : Int) (H' : Hp), 0 ≤ r → r ≤ 10 ^ 18 → Ctx K H' a st → SameX st H H' → Q (.int r) H'
theorem pure__law_size {K : Frag} (vs : List V) (H : Hp) (Q : VK) (E : XK) (h : sp__law_size K vs H Q E) : t__law_size K E { nx := fun _ H' => Q .non H', rt := Q } (start ["_law_script", "_law_state", "_law_kind"] vs) H := by
  obtain ⟨a, st, rfl, hc, q⟩ := h
  walk_at "gx"
  refine ⟨a, st, _, rfl, hc, by decide, fun kd H1 h0 h1 c1 e1 => ?_⟩
  walk_at "gx"
  refine ifd (fun _ => ?_) fun _ => ?_
  · exact ⟨a, st, _, rfl, c1, by decide, fun r H2 h0 h1 c2 e2 => q _ _ h0 (by omega) c2 (e1.trans e2)⟩
  walk_at "gx"
  refine ifd (fun _ => ?_) fun _ => ?_
  · exact ⟨a, st, _, rfl, c1, by decide, fun r H2 h0 h1 c2 e2 => q _ _ h0 (by omega) c2 (e1.trans e2)⟩
  walk_at "gx"
  refine ifd (fun _ => ?_) fun _ => ?_
  · exact ⟨a, st, _, rfl, c1, by decide, fun r H2 h0 h1 c2 e2 => q _ _ h0 (by omega) c2 (e1.trans e2)⟩
  walk_at "gx"
  refine ifd (fun _ => ?_) fun _ => ?_
  · walk_at "gx"
    refine ⟨a, st, _, rfl, c1, by decide, fun r H2 h0 h1 c2 e2 => q _ _ (show (0 : Int) ≤ 10 ^ 18 - r by omega) (show 10 ^ 18 - r ≤ (10 : Int) ^ 18 by omega) c2 (e1.trans e2)⟩
  walk_at "gx"
  refine ⟨a, st, _, rfl, c1, by decide, fun r H2 h0 h1 c2 e2 => ?_⟩
  have h1' : r < 10 ^ 18 := h1
  exact q _ _ (show (0 : Int) ≤ r + 1 by omega) (show r + 1 ≤ (10 : Int) ^ 18 by omega) c2 (e1.trans e2)
end S
namespace S
open PySem PySem.Spec PyProof.Rows L2
def t__law_round_b1 (K : Frag) (E : XK) : TS :=
    tDrop (dML K mApp (dVar 5) (tCons (dCall (sp__law_rotated K) (EW E) (tCons (dVar 6) (tCons (dVar 3) (tCons (dCall (sp__law_wide K) (EW E) (tCons (dVar 0) (tCons (dVar 1) (tCons (tOp (oAdd K) (dVar 3) (tC (.int 1))) (tNil))))) (tNil))))) (tNil)))
def t__law_round_b2_3 (K : Frag) (E : XK) : TS :=
    dIfS (dCmpT oGt (dVar 3) (tC (.int 0))) (tSeq (tAsg (dMethD K "Summary" "kth_bounds" (sp_Summary_kth_bounds K) (EW E) (dVar 15) (tCons (tOp oMod (tCB cInt (tCons (dVar 12) (tNil))) (dVar 3)) (tNil))) (gTup K 2 (gCons (gName 20) (gCons (gName 21) (gNil)))))
    (tSeq (tAsg (dCall (sp__law_at_index K) (EW E) (tCons (dVar 18) (tCons (tOp oMod (tCB cInt (tCons (dVar 12) (tNil))) (dVar 3)) (tNil)))) (gName 22))
    (dIfS (dOr (dCmpT oLt (dVar 22) (dVar 20)) (dCmpT oGt (dVar 22) (dVar 21))) (tRet (tC (.bl false))) (tNext)))) (tNext)
def t__law_round_b2_2 (K : Frag) (E : XK) : TS :=
    tSeq (dIfS (dCmpT (oNe K) (dPropD K "Summary" "total" (sp_Summary_total K) (dVar 15)) (tCB (cSum K) (tCons (dLc (iSeq K (dVar 18)) (gName 25) (tYes) (tOp oMulA (tOp (oIx K) (dVar 25) (tC (.int 0))) (tOp (oIx K) (dVar 25) (tC (.int 1)))) [25]) (tNil)))) (tRet (tC (.bl false))) (tNext))
    (stop (t__law_round_b2_3 K E))
def t__law_round_b2_1 (K : Frag) (E : XK) : TS :=
    tSeq (dIfS (dNot (dAnd (dCmpT oLe (tC (.int 0)) (dVar 16)) (dAnd (dCmpT oLe (dVar 16) (dVar 19)) (dAnd (dCmpT oLe (dVar 19) (dVar 17)) (dCmpT oLe (dVar 17) (dVar 3)))))) (tRet (tC (.bl false))) (tNext))
    (stop (t__law_round_b2_2 K E))
def t__law_round_b2 (K : Frag) (E : XK) : TS :=
    tSeq (tAsg (dCall (sp__law_passes K) (EW E) (tCons (dVar 18) (tCons (dVar 11) (tCons (dVar 14) (tNil))))) (gName 19))
    (stop (t__law_round_b2_1 K E))
def t__law_round_b3 (K : Frag) (E : XK) : TS :=
    dIfS (dCmpT (oNe K) (dCall (sp__law_passing K) (EW E) (tCons (dMethDK K "Summary" "example" 3 1 (sp_Summary_example K) (fun vs zs => vs ++ (zs)) (EW E) (dVar 15) (tCons (dVar 11) (tCons (dVar 24) (tNil))) (tCons (dVar 14) (tNil))) (tCons (dVar 3) (tCons (dVar 7) (tCons (dVar 11) (tCons (dVar 14) (tNil))))))) (dVar 24)) (tRet (tC (.bl false))) (tNext)
def t__law_round_18 (K : Frag) (E : XK) : TS :=
    tRet (dAndV (dCall (sp__law_refused K) (EW E) (tCons (dVar 15) (tCons (dVar 11) (tCons (tOp oSub (tOp oSub (dVar 16) (tC (.int 1))) (dVar 13)) (tCons (dVar 14) (tNil)))))) (dCall (sp__law_refused K) (EW E) (tCons (dVar 15) (tCons (dVar 11) (tCons (tOp (oAdd K) (tOp (oAdd K) (dVar 17) (tC (.int 1))) (dVar 13)) (tCons (dVar 14) (tNil)))))))
def t__law_round_17 (K : Frag) (E : XK) : TS :=
    tSeq (dFor (iSeq K (dLst (tCons (dVar 16) (tCons (dVar 17) (tCons (dVar 23) (tNil)))))) (gName 24) (t__law_round_b3 K E))
    (stop (t__law_round_18 K E))
def t__law_round_16 (K : Frag) (E : XK) : TS :=
    tSeq (tAsg (tOp (oAdd K) (dVar 16) (tOp oMod (tCB cInt (tCons (dVar 12) (tNil))) (tOp (oAdd K) (tOp oSub (dVar 17) (dVar 16)) (tC (.int 1))))) (gName 23))
    (stop (t__law_round_17 K E))
def t__law_round_15 (K : Frag) (E : XK) : TS :=
    tSeq (dFor (iSeq K (dLst (tCons (dVar 8) (tCons (dVar 9) (tNil))))) (gName 18) (t__law_round_b2 K E))
    (stop (t__law_round_16 K E))
def t__law_round_14 (K : Frag) (E : XK) : TS :=
    tSeq (tAsg (dMethDK K "Summary" "bounds" 2 1 (sp_Summary_bounds K) (fun vs zs => vs ++ (zs)) (EW E) (dVar 15) (tCons (dVar 11) (tNil)) (tCons (dVar 14) (tNil))) (gTup K 2 (gCons (gName 16) (gCons (gName 17) (gNil)))))
    (stop (t__law_round_15 K E))
def t__law_round_13 (K : Frag) (E : XK) : TS :=
    tSeq (tAsg (dGiv (DF K "Summary" [] ["many", "counts", "half"]) (dMake K "Summary" (sp_Summarydd_initdd K) (EW E) (tCons (dVar 3) (tCons (tCB (cList K) (tCons (dVar 7) (tNil))) (tNil))))) (gName 15))
    (stop (t__law_round_14 K E))
def t__law_round_12 (K : Frag) (E : XK) : TS :=
    tSeq (tAsg (tOp (oEq K) (dCall (sp__law_draw K) (EW E) (tCons (dVar 0) (tCons (dVar 1) (tCons (tC (.int 2)) (tNil))))) (tC (.int 1))) (gName 14))
    (stop (t__law_round_13 K E))
def t__law_round_11 (K : Frag) (E : XK) : TS :=
    tSeq (tAsg (dCall (sp__law_draw K) (EW E) (tCons (dVar 0) (tCons (dVar 1) (tCons (tC (.int 1000)) (tNil))))) (gName 13))
    (stop (t__law_round_12 K E))
def t__law_round_10 (K : Frag) (E : XK) : TS :=
    tSeq (tAsg (dCall (sp__law_wide K) (EW E) (tCons (dVar 0) (tCons (dVar 1) (tCons (tOp oPow (tC (.int 10)) (tC (.int 18))) (tNil))))) (gName 12))
    (stop (t__law_round_11 K E))
def t__law_round_9 (K : Frag) (E : XK) : TS :=
    tSeq (dIfS (dAnd (dCmpT oGt (dCall (sp__law_draw K) (EW E) (tCons (dVar 0) (tCons (dVar 1) (tCons (tC (.int 3)) (tNil))))) (tC (.int 0))) (dCmpT oGt (dVar 3) (tC (.int 0)))) (tAsg (tOp (oAdd K) (tOp (oIx K) (tOp (oIx K) (dVar 8) (dCall (sp__law_draw K) (EW E) (tCons (dVar 0) (tCons (dVar 1) (tCons (tCB (cLen K) (tCons (dVar 8) (tNil))) (tNil)))))) (tC (.int 1))) (dCall (sp__law_draw K) (EW E) (tCons (dVar 0) (tCons (dVar 1) (tCons (tC (.int 2)) (tNil)))))) (gName 11)) (tNext))
    (stop (t__law_round_10 K E))
def t__law_round_8 (K : Frag) (E : XK) : TS :=
    tSeq (dIfS (dTest K (dVar 2)) (tAsg (tOp oSub (tOp oSub (dCall (sp__law_wide K) (EW E) (tCons (dVar 0) (tCons (dVar 1) (tCons (tOp (oAdd K) (tOp oMulA (tC (.int 2)) (dVar 10)) (tC (.int 4))) (tNil))))) (dVar 10)) (tC (.int 2))) (gName 11)) (tAsg (tOp oSub (tOp oSub (dCall (sp__law_draw K) (EW E) (tCons (dVar 0) (tCons (dVar 1) (tCons (tOp (oAdd K) (tOp oMulA (tC (.int 2)) (dVar 10)) (tC (.int 4))) (tNil))))) (dVar 10)) (tC (.int 2))) (gName 11)))
    (stop (t__law_round_9 K E))
def t__law_round_7 (K : Frag) (E : XK) : TS :=
    tSeq (tAsg (tOp oShl (tC (.int 1)) (tOp oSub (tCB (cLen K) (tCons (dVar 4) (tNil))) (tC (.int 1)))) (gName 10))
    (stop (t__law_round_8 K E))
def t__law_round_6 (K : Frag) (E : XK) : TS :=
    tSeq (tAsg (dCall (sp__law_numbers K) (EW E) (tCons (dVar 5) (tCons (dVar 3) (tNil)))) (gName 9))
    (stop (t__law_round_7 K E))
def t__law_round_5 (K : Frag) (E : XK) : TS :=
    tSeq (tAsg (dCall (sp__law_numbers K) (EW E) (tCons (dVar 4) (tCons (dVar 3) (tNil)))) (gName 8))
    (stop (t__law_round_6 K E))
def t__law_round_4 (K : Frag) (E : XK) : TS :=
    tSeq (tAsg (dLc (iSeq K (dVar 4)) (gName 6) (tYes) (dCall (sp__law_ones K) (EW E0) (tCons (dVar 6) (tCons (dVar 3) (tNil)))) [6]) (gName 7))
    (stop (t__law_round_5 K E))
def t__law_round_3 (K : Frag) (E : XK) : TS :=
    tSeq (dFor (iSeq K (dVar 4)) (gName 6) (t__law_round_b1 K E))
    (stop (t__law_round_4 K E))
def t__law_round_2 (K : Frag) (E : XK) : TS :=
    tSeq (tAsg (dLst (tNil)) (gName 5))
    (stop (t__law_round_3 K E))
def t__law_round_1 (K : Frag) (E : XK) : TS :=
    tSeq (dIfS (dTest K (dVar 2)) (tAsg (dCall (sp__law_places K) (EW E) (tCons (dVar 0) (tCons (dVar 1) (tCons (dVar 3) (tCons (tC (.int 1)) (tCons (tC (.int 40)) (tNil))))))) (gName 4)) (tAsg (dCall (sp__law_places K) (EW E) (tCons (dVar 0) (tCons (dVar 1) (tCons (dVar 3) (tCons (tC (.int 6)) (tCons (tC (.int 8)) (tNil))))))) (gName 4)))
    (stop (t__law_round_2 K E))
def t__law_round (K : Frag) (E : XK) : TS :=
    tSeq (tAsg (dCall (sp__law_size K) (EW E) (tCons (dVar 0) (tCons (dVar 1) (tNil)))) (gName 3))
    (stop (t__law_round_1 K E))
end S
-- fn: _law_round
-- law: k35
-- deps: _law_rotated _law_passing_k35 _law_refused_k35 Summary_kth_bounds Summary_total _law_places _law_wide _law_draw _law_size Summary_init Lc Totl
namespace S
open PySem PySem.Spec PyProof.Rows L2
def sp__law_round (K : Frag) : Sp := fun vs H Q _ => ∃ (a st : Addr) (wd : Bool), vs = [.ref a, .ref st, .bl wd] ∧ Ctx K H a st ∧ ∀ H', Ctx K H' a st → SameX st H H' → Q (.bl true) H'
abbrev csM35 (M : List Sli) (n : Int) : List Int := M.map fun t => cntF (inB t.2) n.toNat
theorem tot35 (M : List Sli) (n : Int) : totC (csM35 M n) = sumN (numL (M.map (·.2))) n.toNat := by
  have e1 : csM35 M n = ((M.map (·.2)).map inB).map fun f => cntF f n.toNat := by rw [List.map_map, List.map_map]; rfl
  unfold totC
  rw [List.length_map, e1, totF_wsum, wsum_sum]
  refine sum_congr _ fun j hj => ?_
  have e3 : (((M.map (·.2)).map inB).map fun f => f (j : Int)) = (M.map (·.2)).map fun es => inB es (j : Int) := by rw [List.map_map]; rfl
  rw [e3]
  unfold numL
  have e4 : M.length = ((M.map (·.2)).map fun es => inB es (j : Int)).length := by rw [List.length_map, List.length_map]
  rw [e4]
  exact acc_all _
/-- stretches of a column of these counts -/
structure St35 (K : Frag) (W : Hp) (z : Addr) (n : Int) (cs : List Int) (Z : List (Int × Int)) (ys : List V) (v : Int → Int) : Prop where
  hz : W z = some (.lst ys)
  hB : Bnds K W Z ys
  lZ : Z.length ≤ 1000001
  nn : ∀ z ∈ Z, 0 ≤ z.1
  sum : ∀ q : Int → Bool, sZ q Z = cntF (fun row => q (v row)) n.toNat
  ws : (Z.map fun z => z.1 * z.2).sum = totC cs
  col : ColC n cs v
  bd : ∀ c eq, (boundsM n cs c eq).1 ≤ cntF (fun r => psV c eq (v r)) n.toNat ∧ cntF (fun r => psV c eq (v r)) n.toNat ≤ (boundsM n cs c eq).2
theorem St35.same {K : Frag} {W W' : Hp} {z : Addr} {n : Int} {cs : List Int} {Z : List (Int × Int)} {ys : List V} {v : Int → Int} (b : St35 K W z n cs Z ys v) (e : Same W W') : St35 K W' z n cs Z ys v := ⟨e _ _ b.hz, Paired.mapP b.hB fun _ _ ⟨t, h1, h2⟩ => ⟨t, h1, Same.tup e h2⟩, b.lZ, b.nn, b.sum, b.ws, b.col, b.bd⟩
theorem St35.x {K : Frag} {W W' : Hp} {z st : Addr} {n : Int} {cs : List Int} {Z : List (Int × Int)} {ys l : List V} {v : Int → Int} (b : St35 K W z n cs Z ys v) (e : SameX st W W') (hst : W st = some (.lst l)) (nz : z ≠ st) : St35 K W' z n cs Z ys v := ⟨e _ _ b.hz nz, Paired.mapP b.hB fun _ _ ⟨t, h1, h2⟩ => ⟨t, h1, e.tup h2 hst⟩, b.lZ, b.nn, b.sum, b.ws, b.col, b.bd⟩
/-- of stretches made by the law -/
theorem st35_of {K : Frag} {W : Hp} {z : Addr} {n : Int} {cs : List Int} {M : List Sli} {Z : List (Int × Int)} {ys : List V} (okc : okC n cs) (hcs : csM35 M n = cs) (hz : W z = some (.lst ys)) (hB : Bnds K W Z ys) (lZ : Z.length ≤ 1000001) (nn : ∀ z ∈ Z, 0 ≤ z.1) (hsum : ∀ q : Int → Bool, ((Z.filter fun z => q z.2).map (·.1)).sum = cntF (fun row => q (numL (M.map (·.2)) row)) n.toNat) (hws : (Z.map fun z => z.1 * z.2).sum = sumN (numL (M.map (·.2))) n.toNat) : St35 K W z n cs Z ys (numL (M.map (·.2))) := by
  have n0 := okc.1
  have en : ((n.toNat : Nat) : Int) = n := Int.toNat_of_nonneg n0
  have neM : M ≠ [] := fun z => okc.2.1 (by rw [← hcs, z]; rfl)
  have eL : ((M.map (·.2)).map inB).map (fun f => cntF f n.toNat) = cs := by rw [← hcs, List.map_map, List.map_map]; rfl
  have eN : ∀ row, numL (M.map (·.2)) row = twos (((M.map (·.2)).map inB).map fun f => f row) := fun row => by
    unfold numL
    rw [List.map_map, List.map_map, List.map_map]; rfl
  have neL : (M.map (·.2)).map inB ≠ [] := fun z => neM (by simpa using z)
  have lcs : cs.length = M.length := by rw [← hcs]; exact List.length_map ..
  have bd : ∀ c eq, (boundsM n cs c eq).1 ≤ cntF (fun r => psV c eq (numL (M.map (·.2)) r)) n.toNat ∧ cntF (fun r => psV c eq (numL (M.map (·.2)) r)) n.toNat ≤ (boundsM n cs c eq).2 := fun c eq => by
    have z := bounds_hold (n := n.toNat) (c := c) (eq := eq) neL
    dsimp only at z
    rw [eL, en] at z
    simp only [eN]
    exact z
  refine ⟨hz, hB, lZ, nn, fun q => by rw [← sZ_flt]; exact hsum q, by rw [hws, ← tot35, hcs], ⟨n0, fun c => bd c false, fun r => ?_⟩, bd⟩
  have ll : (((M.map (·.2)).map inB).map fun f => f r).length = M.length := by rw [List.length_map, List.length_map, List.length_map]
  have := twos_rangeL (bs := ((M.map (·.2)).map inB).map fun f => f r) (fun z => neL (by simpa using z))
  rw [ll] at this
  unfold halfC
  rw [eN, lcs]
  exact this
theorem pair_mem35 {α : Type} {P : α → V → Prop} : ∀ {as : List α} {ys : List V}, Paired P as ys → Paired (fun a y => a ∈ as ∧ P a y) as ys
  | _, _, .nil => .nil
  | _, _, .cons h t => .cons ⟨List.mem_cons_self, h⟩ (Paired.mapP (pair_mem35 t) fun _ _ ⟨h1, h2⟩ => ⟨List.mem_cons_of_mem _ h1, h2⟩)
theorem pair35_eq {α : Type} {f : α → V} : ∀ {as : List α} {ys : List V}, Paired (fun a y => y = f a) as ys → ys = as.map f
  | _, _, .nil => rfl
  | _, _, .cons h t => by rw [h, pair35_eq t]; rfl
theorem mem_sum35 {w : Int × Int} : ∀ {Z : List (Int × Int)}, (∀ z ∈ Z, 0 ≤ z.1) → w ∈ Z → w.1 ≤ (Z.map (·.1)).sum
  | z :: Z, h, hw => by
    rw [List.map_cons, List.sum_cons]
    have hz := h z List.mem_cons_self
    have hs : 0 ≤ (Z.map (·.1)).sum := by
      rw [← sZ_all (q := fun _ => true) (fun _ _ => rfl)]
      exact sZ_nn fun y hy => h y (List.mem_cons_of_mem _ hy)
    rcases List.mem_cons.mp hw with rfl | hw
    · omega
    · have := mem_sum35 (fun y hy => h y (List.mem_cons_of_mem _ hy)) hw
      omega
section
variable {K : Frag} {E : XK} {W : Hp} {a st p mv ct z1 z2 sm z : Addr} {wd eq : Bool} {n hf c far step lo hi : Int} {cs : List Int} {Z : List (Int × Int)} {ys : List V} {v : Int → Int} {x6 x18 x19 x20 x21 x22 x23 x24 : Option V}
abbrev s35 (a st : Addr) (wd : Bool) (n : Int) (p mv : Addr) (x6 : Option V) (ct z1 z2 : Addr) (hf c far step : Int) (eq : Bool) (sm : Addr) (lo hi : Int) (x18 x19 x20 x21 x22 x23 x24 : Option V) : L2.St := [some (.ref a), some (.ref st), some (.bl wd), some (.int n), some (.ref p), some (.ref mv), x6, some (.ref ct), some (.ref z1), some (.ref z2), some (.int hf), some (.int c), some (.int far), some (.int step), some (.bl eq), some (.ref sm), some (.int lo), some (.int hi), x18, x19, x20, x21, x22, x23, x24, none]
theorem rd_b2 {D : L2.Ends} (su : Su K W sm n cs) (lc : cs.length ≤ 60) (hn : n ≤ 10 ^ 18) (b : St35 K W z n cs Z ys v) (hlo : lo = (boundsM n cs c eq).1) (hhi : hi = (boundsM n cs c eq).2) (f0 : 0 ≤ far)
    (k : ∀ W' x19 x20 x21 x22, Same W W' → D.nx (s35 a st wd n p mv x6 ct z1 z2 hf c far step eq sm lo hi (some (.ref z)) x19 x20 x21 x22 x23 x24) W') :
    t__law_round_b2 K E D (s35 a st wd n p mv x6 ct z1 z2 hf c far step eq sm lo hi (some (.ref z)) x19 x20 x21 x22 x23 x24) W := by
  obtain ⟨sf, okc, _, dx, u, ha, hu⟩ := id su
  obtain ⟨b1, b2, b3⟩ := bounds_ok (c := c) (eq := eq) okc
  obtain ⟨g1, g2⟩ := b.bd c eq
  rw [← hlo] at b1 b2 g1
  rw [← hhi] at b2 b3 g2
  have tot : (Z.map (·.1)).sum = n := by
    have := b.sum fun _ => true
    rw [sZ_all fun _ _ => rfl, cnt_all fun _ => rfl] at this
    have := okc.1
    omega
  have hz := b.hz
  walk_at "gx"
  refine ⟨z, c, eq, Z, ys, rfl, b.hz, b.hB, ?_⟩
  rw [b.sum (psV c eq)]
  generalize cntF (fun row => psV c eq (v row)) n.toNat = pv at *
  refine ⟨?_⟩
  walk_at "gx"
  refine ifd (fun _ => ?_) (fun h => absurd b1 h)
  walk_at "gx"
  refine ifd (fun _ => ?_) (fun h => absurd g1 h)
  walk_at "gx"
  refine ifd (fun _ => ?_) (fun h => absurd g2 h)
  walk_at "gx"
  refine ifn (fun h => absurd b3 h) (fun _ => ?_)
  refine ⟨?_⟩
  unfold t__law_round_b2_2
  have ha0 := ha
  refine IsD.of ha ?_
  refine ⟨sm, n, cs, rfl, su, by omega, fun W1 e1 => ?_⟩
  have b1' := b.same e1
  have hz1 := b1'.hz
  walk_at "gx"
  refine lc_gen Z (fun _ => true) (fun w y => w ∈ Z ∧ ∃ t, y = .ref t ∧ SqT K W1 t [.int w.1, .int w.2]) (fun _ w y _ => y = .int (w.1 * w.2)) (.inl (SqL.of hz1)) (pair_mem35 b1'.hB) (by rw [sizeLine_eq]; have := b.lZ; omega) (fun _ _ _ _ _ _ _ h _ => h) ?_ ?_
  · rintro D2 l w y X A B nD hD hw ⟨hwZ, t, rfl, ht⟩ eX hA _
    have htX := Same.tup eX ht
    have hw1 : w.1 ≤ n := by rw [← tot]; exact mem_sum35 b.nn hwZ
    have hw0 := b.nn w hwZ
    have cm : CMul w.1 w.2 := .inl (by omega)
    refine ⟨rfl, ?_⟩
    unfold tYes
    walk_at "gx"
    exact hA _ _ (Same.refl _) rfl rfl
  intro D2 zs W2 nD hD hP e2
  rw [List.filter_eq_self.mpr (fun _ _ => rfl)] at hP
  have ez : zs = (Z.map fun w => w.1 * w.2).map V.int := by rw [List.map_map]; exact pair35_eq hP
  rw [ez] at hD
  walk_at "gx"
  refine ⟨⟨_, SqL.of hD, ?_⟩⟩
  rw [b.ws]
  walk_at "gx"
  refine ifnf rfl ?_
  have e12 := e1.trans e2
  have b2' := b.same e12
  have ha2 := e12 _ _ ha
  refine ⟨?_⟩
  unfold t__law_round_b2_3
  walk_at "gx"
  refine ifd (fun hpos => ?_) (fun hneg => ?_)
  · have hpos : 0 < n := hpos
    have k0 := Int.emod_nonneg far (show n ≠ 0 by omega)
    have k1 := Int.emod_lt_of_pos far hpos
    walk_at "gx"
    refine IsD.of ha2 ?_
    walk_at "gx"
    refine ⟨sm, far % n, n, cs, rfl, su.same e12, lc, fun _ _ t low high W3 e3 hl hh ht => ?_, fun no => absurd ⟨k0, k1⟩ no⟩
    refine ⟨t, _, rfl, ht, rfl, _, _, rfl, _, _, rfl, rfl, ?_⟩
    have b3' := b2'.same e3
    walk_at "gx"
    refine ⟨z, far % n, Z, ys, rfl, b3'.hz, b3'.hB, b.lZ, b.nn, k0, by rw [tot]; exact k1, fun own W4 e4 hown => ?_⟩
    have hK : KthP n v (far % n) own := by
      obtain ⟨q1, q2⟩ := hown
      rw [b.sum] at q1 q2
      exact ⟨q1, q2⟩
    have i1 := low_le b.col hK hl
    have i2 := le_high b.col hK hh
    walk_at "gx"
    refine ifd (fun h => absurd h (by omega)) (fun _ => ?_)
    walk_at "gx"
    refine ifd (fun h => absurd h (by omega)) (fun _ => ?_)
    exact k W4 _ _ _ _ ((e12.trans e3).trans e4)
  · exact k W2 _ _ _ _ e12
theorem rd_b3 {D : L2.Ends} {kk : Int} (su : Su K W sm n cs) (lc : cs.length ≤ 60) (hn : n ≤ 10 ^ 18) (hct : W ct = some (.lst (cs.map V.int))) (hb : inBd n cs c eq kk)
    (k : ∀ W', Same W W' → D.nx (s35 a st wd n p mv x6 ct z1 z2 hf c far step eq sm lo hi x18 x19 x20 x21 x22 x23 (some (.int kk))) W') :
    t__law_round_b3 K E D (s35 a st wd n p mv x6 ct z1 z2 hf c far step eq sm lo hi x18 x19 x20 x21 x22 x23 (some (.int kk))) W := by
  obtain ⟨sf, okc, _, dx, u, ha, hu⟩ := id su
  have l1 : 1 ≤ cs.length := Nat.pos_of_ne_zero fun z => okc.2.1 (List.length_eq_zero_iff.mp z)
  walk_at "gx"
  refine IsD.of ha ?_
  refine ⟨rfl, rfl, ?_⟩
  refine ⟨sm, c, kk, n, eq, cs, rfl, su, lc, hn, fun _ x W1 S e1 nx lS hx => ?_, fun no => absurd hb no⟩
  walk_at "gx"
  refine ⟨x, ct, n, c, eq, cs, S, exV n cs c eq kk, slN n (exK n cs c eq kk) (exT n cs c eq), rfl, hx, e1 _ _ hct, ⟨l1, lc, fun _ => rfl, fun _ _ hd => ex_cnt okc hb hd, fun _ hj => ex_cut okc hb hj⟩, hn, fun W2 e2 => ?_⟩
  have ep : cntF (fun r => psV c eq (exV n cs c eq kk r)) n.toNat = kk := ex_pass okc hb
  rw [ep]
  walk_at "gx"
  refine ifnf rfl ?_
  exact k W2 (e1.trans e2)
/-- counts, both stretches -/
structure B35 (K : Frag) (W : Hp) (a st ct z1 z2 : Addr) (n : Int) (cs : List Int) (Z1 Z2 : List (Int × Int)) (ys1 ys2 : List V) (v1 v2 : Int → Int) : Prop where
  c : Ctx K W a st
  hct : W ct = some (.lst (cs.map V.int))
  s1 : St35 K W z1 n cs Z1 ys1 v1
  s2 : St35 K W z2 n cs Z2 ys2 v2
  ok : okC n cs
  lc : cs.length ≤ 40
  hn : n ≤ 10 ^ 18
  ne : ct ≠ st ∧ z1 ≠ st ∧ z2 ≠ st
  nz : 0 < n → Z1 ≠ []
variable {Z1 Z2 : List (Int × Int)} {ys1 ys2 : List V} {v1 v2 : Int → Int}
theorem B35.mvs {W' : Hp} (b : B35 K W a st ct z1 z2 n cs Z1 Z2 ys1 ys2 v1 v2) (e : SameX st W W') (c' : Ctx K W' a st) : B35 K W' a st ct z1 z2 n cs Z1 Z2 ys1 ys2 v1 v2 := by
  obtain ⟨l0, hst⟩ := ctx_st b.c
  exact ⟨c', e _ _ b.hct b.ne.1, b.s1.x e hst b.ne.2.1, b.s2.x e hst b.ne.2.2, b.ok, b.lc, b.hn, b.ne, b.nz⟩
theorem B35.same {W' : Hp} (b : B35 K W a st ct z1 z2 n cs Z1 Z2 ys1 ys2 v1 v2) (e : Same W W') : B35 K W' a st ct z1 z2 n cs Z1 Z2 ys1 ys2 v1 v2 := b.mvs (Same.x e) (b.c.same e)
theorem rd_13 {D : L2.Ends} {x15 x16 x17 : Option V} (b : B35 K W a st ct z1 z2 n cs Z1 Z2 ys1 ys2 v1 v2) (f0 : 0 ≤ far) (p0 : 0 ≤ step) (k : ∀ W', Same W W' → D.rt (.bl true) W') :
    t__law_round_13 K E D [some (.ref a), some (.ref st), some (.bl wd), some (.int n), some (.ref p), some (.ref mv), x6, some (.ref ct), some (.ref z1), some (.ref z2), some (.int hf), some (.int c), some (.int far), some (.int step), some (.bl eq), x15, x16, x17, x18, x19, x20, x21, x22, x23, x24, none] W := by
  have lc := b.lc
  have hn := b.hn
  have hct := b.hct
  walk_at "gx"
  refine fun sf => ?_
  walk_at "gx"
  refine ⟨fun q1 nq1 => ?_⟩
  have e1 := same_new (o := .lst (cs.map V.int)) nq1
  have hq1 : upd W q1 (.lst (cs.map V.int)) q1 = some (.lst (cs.map V.int)) := upd_same
  generalize upd W q1 (.lst (cs.map V.int)) = W1 at *
  refine mk_summary sf (.inl (SqL.of hq1)) (by omega) (fun okc sm W2 e2 nsm su => ?_) (fun nb => absurd b.ok nb)
  have b2 := (b.same e1).same e2
  obtain ⟨_, _, _, dx, u, ha, hu⟩ := id su
  obtain ⟨bo1, bo2, bo3⟩ := bounds_ok (c := c) (eq := eq) okc
  refine ⟨?_⟩
  walk_at "gx"
  refine IsD.of ha ?_
  refine ⟨rfl, rfl, ?_⟩
  refine ⟨sm, c, n, eq, cs, rfl, su, by omega, fun t W3 e3 ht => ?_⟩
  refine ⟨t, _, rfl, ht, rfl, _, _, rfl, _, _, rfl, rfl, ?_⟩
  obtain ⟨lo, hlo⟩ : ∃ lo, lo = (boundsM n cs c eq).1 := ⟨_, rfl⟩
  obtain ⟨hi, hhi⟩ : ∃ hi, hi = (boundsM n cs c eq).2 := ⟨_, rfl⟩
  have hI : ∀ k, inBd n cs c eq k ↔ lo ≤ k ∧ k ≤ hi := fun k => by rw [hlo, hhi]; exact Iff.rfl
  rw [← hlo] at bo1 bo2
  rw [← hhi] at bo2 bo3
  rw [← hlo, ← hhi]
  have b3 := b2.same e3
  have su3 := su.same e3
  refine ⟨?_⟩
  walk_at "gx"
  refine ⟨fun q2 nq2 => ?_⟩
  have e4 := same_new (o := .lst [V.ref z1, .ref z2]) nq2
  have hq2 : upd W3 q2 (.lst [V.ref z1, .ref z2]) q2 = some (.lst [.ref z1, .ref z2]) := upd_same
  generalize upd W3 q2 (.lst [V.ref z1, .ref z2]) = W4 at *
  refine for_seq0 (H0 := W4) (fun i σ Y => Same W4 Y ∧ ∃ (x18 x19 x20 x21 x22 : Option V), σ = s35 a st wd n p mv x6 ct z1 z2 hf c far step eq sm lo hi x18 x19 x20 x21 x22 x23 x24) (.inl (SqL.of hq2)) (Same.refl _) ⟨Same.refl _, _, _, _, _, _, rfl⟩ (fun _ _ _ h => h.1) ?_ ?_
  · rintro i y σ Y hy ⟨eY, y18, y19, y20, y21, y22, rfl⟩
    have bY := b3.same (e4.trans eY)
    have suY := su3.same (e4.trans eY)
    rcases i with _ | _ | i
    · obtain rfl : V.ref z1 = y := Option.some.inj hy
      exact rd_b2 suY (by omega) hn bY.s1 hlo hhi f0 fun W' _ _ _ _ e => ⟨eY.trans e, _, _, _, _, _, rfl⟩
    · obtain rfl : V.ref z2 = y := Option.some.inj hy
      exact rd_b2 suY (by omega) hn bY.s2 hlo hhi f0 fun W' _ _ _ _ e => ⟨eY.trans e, _, _, _, _, _, rfl⟩
    · simp at hy
  · rintro σ Y ⟨eY, y18, y19, y20, y21, y22, rfl⟩
    have hd : 0 < hi - lo + 1 := by omega
    have hm0 := Int.emod_nonneg far (show hi - lo + 1 ≠ 0 by omega)
    have hm1 := Int.emod_lt_of_pos far hd
    refine ⟨?_⟩
    walk_at "gx"
    refine ⟨fun q3 nq3 => ?_⟩
    have e5 := same_new (o := .lst [V.int lo, .int hi, .int (lo + far % (hi - lo + 1))]) nq3
    have hq3 : upd Y q3 (.lst [V.int lo, .int hi, .int (lo + far % (hi - lo + 1))]) q3 = some (.lst [.int lo, .int hi, .int (lo + far % (hi - lo + 1))]) := upd_same
    refine for_seq0 (K := K) (H0 := upd Y q3 (.lst [V.int lo, .int hi, .int (lo + far % (hi - lo + 1))])) (fun i σ Y2 => Same (upd Y q3 (.lst [V.int lo, .int hi, .int (lo + far % (hi - lo + 1))])) Y2 ∧ ∃ x24 : Option V, σ = s35 a st wd n p mv x6 ct z1 z2 hf c far step eq sm lo hi y18 y19 y20 y21 y22 (some (.int (lo + far % (hi - lo + 1)))) x24) (.inl (SqL.of hq3)) (Same.refl _) ⟨Same.refl _, x24, rfl⟩ (fun _ _ _ h => h.1) ?_ ?_
    · rintro i y σ Y2 hy ⟨eY2, y24, rfl⟩
      obtain ⟨kk, rfl, k0, k1⟩ : ∃ kk : Int, y = .int kk ∧ lo ≤ kk ∧ kk ≤ hi := by
        rcases i with _ | _ | _ | i
        · exact ⟨lo, (Option.some.inj hy).symm, by omega, by omega⟩
        · exact ⟨hi, (Option.some.inj hy).symm, by omega, by omega⟩
        · exact ⟨lo + far % (hi - lo + 1), (Option.some.inj hy).symm, by omega, by omega⟩
        · simp at hy
      have eA := ((e4.trans eY).trans e5).trans eY2
      have hb : inBd n cs c eq kk := by rw [hI]; exact ⟨k0, k1⟩
      exact rd_b3 (su3.same eA) (by omega) hn (b3.same eA).hct hb fun W' e => ⟨eY2.trans e, _, rfl⟩
    · rintro σ Y2 ⟨eY2, y24, rfl⟩
      have eA := ((e4.trans eY).trans e5).trans eY2
      refine ⟨?_⟩
      walk_at "gx"
      refine ⟨sm, c, lo - 1 - step, n, eq, cs, rfl, su3.same eA, by omega, hn, fun h => ?_, fun W5 e6 => ?_⟩
      · have := ((hI _).mp h).1; omega
      dsimp only [isB]
      walk_at "gx"
      refine ⟨sm, c, hi + 1 + step, n, eq, cs, rfl, su3.same (eA.trans e6), by omega, hn, fun h => ?_, fun W6 e7 => ?_⟩
      · have := ((hI _).mp h).2; omega
      exact k W6 (((((e1.trans e2).trans e3).trans eA).trans e6).trans e7)
theorem rd_9 {D : L2.Ends} {x12 x13 x14 x15 x16 x17 : Option V} (b : B35 K W a st ct z1 z2 n cs Z1 Z2 ys1 ys2 v1 v2) (k : ∀ W', Ctx K W' a st → SameX st W W' → D.rt (.bl true) W') :
    t__law_round_9 K E D [some (.ref a), some (.ref st), some (.bl wd), some (.int n), some (.ref p), some (.ref mv), x6, some (.ref ct), some (.ref z1), some (.ref z2), some (.int hf), some (.int c), x12, x13, x14, x15, x16, x17, x18, x19, x20, x21, x22, x23, x24, none] W := by
  have f10 : ∀ (c : Int) (Y : Hp), Ctx K Y a st → SameX st W Y → t__law_round_10 K E D [some (.ref a), some (.ref st), some (.bl wd), some (.int n), some (.ref p), some (.ref mv), x6, some (.ref ct), some (.ref z1), some (.ref z2), some (.int hf), some (.int c), x12, x13, x14, x15, x16, x17, x18, x19, x20, x21, x22, x23, x24, none] Y := fun c Y cY eY => by
    have p18 : (0 : Int) < 10 ^ 18 := by decide
    walk_at "gx"
    refine ⟨a, st, _, rfl, cY, p18, fun far W1 f0 f1 c1 e1 => ?_⟩
    refine ⟨?_⟩
    walk_at "gx"
    refine ⟨a, st, _, rfl, c1, by decide, fun step W2 s0 s1 c2 e2 => ?_⟩
    refine ⟨?_⟩
    walk_at "gx"
    refine ⟨a, st, _, rfl, c2, by decide, fun dd W3 d0 d1 c3 e3 => ?_⟩
    have eA := ((eY.trans e1).trans e2).trans e3
    walk_at "gx"
    exact rd_13 (b.mvs eA c3) f0 s0 fun W' e => k W' (c3.same e) (eA.then e)
  walk_at "gx"
  refine ⟨a, st, _, rfl, b.c, by decide, fun d1 W1 d10 d11 c1 e1 => ?_⟩
  have b1 := b.mvs e1 c1
  walk_at "gx"
  refine ifd (fun h1 => ?_) (fun h1 => ⟨f10 c W1 c1 e1⟩)
  walk_at "gx"
  refine ifd (fun h2 => ?_) (fun h2 => ⟨f10 c W1 c1 e1⟩)
  have hz1 := b1.s1.hz
  have lz := Paired.length b1.s1.hB
  have zp : 0 < Z1.length := Nat.pos_of_ne_zero fun z => b.nz h2 (List.length_eq_zero_iff.mp z)
  walk_at "gx"
  refine ⟨a, st, _, rfl, c1, by omega, fun d2 W2 d20 d21 c2 e2 => ?_⟩
  have d21 : d2 < (ys1.length : Int) := d21
  obtain ⟨i, rfl⟩ : ∃ i : Nat, d2 = i := ⟨d2.toNat, by omega⟩
  have b2 := b1.mvs e2 c2
  obtain ⟨zz, hzz⟩ : ∃ zz, Z1[i]? = some zz := ⟨_, List.getElem?_eq_getElem (by omega)⟩
  obtain ⟨y, hy, t, rfl, ht⟩ := lcg_to b2.s1.hB hzz
  have ati : L2.atI ys1 ((i : Nat) : Int) = some (.ref t) := L2.atI_nat hy
  have hz2 := b2.s1.hz
  walk_at "gx"
  refine ⟨a, st, _, rfl, c2, by decide, fun d3 W3 _ _ c3 e3 => ?_⟩
  walk_at "go"
  exact ⟨f10 _ W3 c3 ((e1.trans e2).trans e3)⟩
theorem rd_8 {D : L2.Ends} {x11 x12 x13 x14 x15 x16 x17 : Option V} (b : B35 K W a st ct z1 z2 n cs Z1 Z2 ys1 ys2 v1 v2) (hf0 : 0 < hf) (hf1 : hf < 2 ^ 62) (k : ∀ W', Ctx K W' a st → SameX st W W' → D.rt (.bl true) W') :
    t__law_round_8 K E D [some (.ref a), some (.ref st), some (.bl wd), some (.int n), some (.ref p), some (.ref mv), x6, some (.ref ct), some (.ref z1), some (.ref z2), some (.int hf), x11, x12, x13, x14, x15, x16, x17, x18, x19, x20, x21, x22, x23, x24, none] W := by
  cases wd with
  | true =>
    walk_at "gx"
    refine ⟨a, st, _, rfl, b.c, (by show 0 < 2 * hf + 4; omega), fun d1 W1 _ _ c1 e1 => ?_⟩
    walk_at "go"
    exact ⟨rd_9 (b.mvs e1 c1) fun W' c' e' => k W' c' (e1.trans e')⟩
  | false =>
    walk_at "gx"
    refine ⟨a, st, _, rfl, b.c, (by show 0 < 2 * hf + 4; omega), fun d1 W1 _ _ c1 e1 => ?_⟩
    walk_at "go"
    exact ⟨rd_9 (b.mvs e1 c1) fun W' c' e' => k W' c' (e1.trans e')⟩
end
theorem pure__law_round {K : Frag} (vs : List V) (H : Hp) (Q : VK) (E : XK) (h : sp__law_round K vs H Q E) : t__law_round K E { nx := fun _ H' => Q .non H', rt := Q } (start ["_law_script", "_law_state", "_law_wide_here", "_law_size_here", "_law_parts", "_law_moved", "_law_ends_here", "_law_counts", "_law_one", "_law_other", "_law_half", "_law_c", "_law_far", "_law_step", "_law_equal", "_law_summary", "_law_least", "_law_greatest", "_law_stretches", "_law_passing_here", "_law_low", "_law_high", "_law_own", "_law_between", "_law_wanted", "_law_stretch"] vs) H := by
  obtain ⟨a, st, wd, rfl, c0, good⟩ := h
  walk_at "gx"
  refine ⟨a, st, rfl, c0, fun n H1 n0 n1 c1 e1 => ?_⟩
  have f2 : ∀ (p : Addr) (M : List Sli) (H2 : Hp), H1 p = none → H2 p = some (.lst (M.map vB)) → Lss H2 n 1000 M → (∀ t ∈ M, t.2.length ≤ 900 ∧ H1 t.1 = none ∧ t.1 ≠ p) → M ≠ [] → M.length ≤ 40 → Ctx K H2 a st → SameX st H1 H2 →
      t__law_round_2 K E { nx := fun _ H' => Q .non H', rt := Q } [some (.ref a), some (.ref st), some (.bl wd), some (.int n), some (.ref p), none, none, none, none, none, none, none, none, none, none, none, none, none, none, none, none, none, none, none, none, none] H2 := fun p M H2 np hp hM hf ne lM c2 e2 => by
    have pst := ctx_ne c1 np
    have tst : ∀ t ∈ M, t.1 ≠ st := fun t ht => ctx_ne c1 (hf t ht).2.1
    walk_at "gx"
    refine ⟨fun mv nmv => ?_⟩
    have e3 := same_new (o := .lst ([] : List V)) nmv
    have hmv : upd H2 mv (.lst ([] : List V)) mv = some (.lst []) := upd_same
    have mst := ctx_ne c2 nmv
    have c3 := c2.same e3
    have sx3 : SameX st H2 (upd H2 mv (.lst ([] : List V))) := Same.x e3
    have mp : p ≠ mv := fun e => by subst e; rw [hp] at nmv; cases nmv
    generalize upd H2 mv (.lst ([] : List V)) = H3 at *
    have hp3 := e3 _ _ hp
    refine ⟨?_⟩
    walk_at "gx"
    refine for_lst (fun i σ W => ∃ (N : List Sli) (x6 : Option V), σ = [some (.ref a), some (.ref st), some (.bl wd), some (.int n), some (.ref p), some (.ref mv), x6, none, none, none, none, none, none, none, none, none, none, none, none, none, none, none, none, none, none, none] ∧ Ctx K W a st ∧ SameX st H2 W ∧ W mv = some (.lst (N.map vB)) ∧ N.length = i ∧ (∀ t ∈ N, t.1 ≠ mv ∧ t.1 ≠ st ∧ W t.1 = some (.lst (t.2.map V.int)) ∧ Ends n t.2 ∧ t.2.length ≤ 1000) ∧ csM35 N n = csM35 (M.take i) n) hp3 ⟨[], none, rfl, c3, sx3, hmv, rfl, fun t ht => (nomatch ht), by rw [List.take_zero]⟩ (fun i σ W h => by
      obtain ⟨_, _, _, _, h, _⟩ := h
      exact h _ _ hp pst) ?_ ?_
    · rintro i y σ W hy ⟨N, x6, rfl, cW, sW, hmW, lN, hN, hcs⟩
      rw [List.getElem?_map] at hy
      obtain ⟨t, ht, rfl⟩ := Option.map_eq_some_iff.mp hy
      obtain ⟨t1, t2, t3⟩ := hM t (List.mem_of_getElem? ht)
      have tf := hf t (List.mem_of_getElem? ht)
      have til := (List.getElem?_eq_some_iff.mp ht).1
      walk_at "gx"
      refine ⟨a, st, _, rfl, cW, (by show 0 < n + 1; omega), fun s W1 s0 s1 c4 e4 => ?_⟩
      have sW1 := sW.trans e4
      have hmW1 := e4 _ _ hmW mst
      walk_at "gx"
      refine ⟨t.1, n, s, t.2, rfl, sW1 _ _ t1 (tst t (List.mem_of_getElem? ht)), t2, t3, n0, s0, fun d R W2 e5 nd hd hR lR hcnt => ?_⟩
      have dst := ctx_ne c4 nd
      have dm : d ≠ mv := fun e => by subst e; rw [hmW1] at nd; cases nd
      have hmW2 := e5 _ _ hmW1
      have lNs : (N.map vB).length < sizeLine := by rw [sizeLine_eq, List.length_map]; omega
      walk_at "gx"
      have ex : SameX mv W2 (upd W2 mv (.lst (N.map vB ++ [.ref d]))) := SameX.upd
      refine ⟨N ++ [(d, R)], _, rfl, (c4.same e5).mut c2 nmv, SameX.mut (sW1.then e5) nmv, by rw [List.map_append]; exact upd_same, by rw [List.length_append, lN]; rfl, fun u hu => ?_, ?_⟩
      · rcases List.mem_append.mp hu with hu | hu
        · obtain ⟨u1, u2, u3, u4, u5⟩ := hN u hu
          exact ⟨u1, u2, ex _ _ (e5 _ _ (e4 _ _ u3 u2)) u1, u4, u5⟩
        · obtain rfl := List.mem_singleton.mp hu
          exact ⟨dm, dst, ex _ _ hd dm, hR, by have := tf.1; show R.length ≤ 1000; omega⟩
      · show (N ++ [(d, R)]).map _ = (M.take (i + 1)).map _
        rw [List.take_add_one, ht, List.map_append, List.map_append]
        have hcs : N.map (fun t => cntF (inB t.2) n.toNat) = (M.take i).map fun t => cntF (inB t.2) n.toNat := hcs
        rw [hcs]
        congr 1
        show [cntF (inB R) n.toNat] = [cntF (inB t.2) n.toNat]
        rw [hcnt]
    · rintro σ W ⟨N, x6, rfl, cW, sW, hmW, lN, hN, hcs⟩
      rw [List.length_map] at lN hcs
      rw [List.take_length] at hcs
      have hpW := sW _ _ hp pst
      have hMW := hM.x sW tst
      have hNW : Lss W n 1000 N := fun t ht => let ⟨_, _, a3, a4, a5⟩ := hN t ht; ⟨a3, a4, a5⟩
      refine ⟨?_⟩
      walk_at "gx"
      refine lc_dat M vB (fun _ t y _ => y = .int (cntF (inB t.2) n.toNat)) (.inl (SqL.of hpW)) (by rw [sizeLine_eq]; omega) (fun _ _ _ _ _ _ _ h _ => h) ?_ ?_
      · intro D l2 j t X A hD hl2 hj eX hA
        obtain ⟨t1, t2, t3⟩ := hMW t (List.mem_of_getElem? hj)
        refine ⟨rfl, ?_⟩
        refine ⟨t.1, n, t.2, rfl, .inl (SqL.of (eX _ _ t1)), t2, t3, n0, ?_⟩
        exact hA _ _ (Same.refl _) rfl
      intro ct ys2 W5 nct hct hP e5
      have key : ∀ {as : List Sli} {bs : List V}, Paired (fun (t : Sli) y => y = .int (cntF (inB t.2) n.toNat)) as bs → bs = (as.map fun t => cntF (inB t.2) n.toNat).map V.int := by
        intro as bs h
        induction h with
        | nil => rfl
        | cons r _ ih => rw [r, ih]; rfl
      rw [key hP] at hct
      have okc : okC n (csM35 M n) := ⟨n0, fun z => ne (by simpa using z), fun c hc => by
        obtain ⟨t, _, rfl⟩ := List.mem_map.mp hc
        have := cnt_bd (inB t.2) n.toNat
        omega⟩
      have neN : N ≠ [] := fun z => ne (by rw [z] at lN; exact List.eq_nil_of_length_eq_zero lN.symm)
      refine ⟨?_⟩
      have hp5 := e5 _ _ hpW
      walk_at "gx"
      refine ⟨p, n, M, rfl, hp5, hMW.same e5, by omega, ne, n1, n0, fun z1 Z1 ys1 W6 e6 nz1 hz1 hB1 hs1 hne1 lZ1 hnn1 hw1 => ?_⟩
      have e56 := e5.trans e6
      have hm6 := e56 _ _ hmW
      refine ⟨?_⟩
      walk_at "gx"
      refine ⟨mv, n, N, rfl, hm6, hNW.same e56, by omega, neN, n1, n0, fun z2 Z2 ys2 W7 e7 nz2 hz2 hB2 hs2 hne2 lZ2 hnn2 hw2 => ?_⟩
      have e57 := e56.trans e7
      have c7 := cW.same e57
      have S1 := (st35_of okc rfl hz1 hB1 lZ1 hnn1 hs1 hw1).same e7
      have S2 := st35_of (M := N) okc hcs hz2 hB2 lZ2 hnn2 hs2 hw2
      have cst : ct ≠ st := ctx_ne cW nct
      have z1st : z1 ≠ st := ctx_ne (cW.same e5) nz1
      have z2st : z2 ≠ st := ctx_ne (cW.same e56) nz2
      have lcs : (csM35 M n).length = M.length := List.length_map ..
      have B : B35 K W7 a st ct z1 z2 n (csM35 M n) Z1 Z2 ys1 ys2 _ _ := ⟨c7, e7 _ _ (e6 _ _ hct), S1, S2, okc, by omega, n1, ⟨cst, z1st, z2st⟩, hne1⟩
      have lMp : (M.map vB).length = M.length := List.length_map ..
      have hp7 := e57 _ _ hpW
      have M1 : 1 ≤ M.length := Nat.pos_of_ne_zero fun z => ne (List.eq_nil_of_length_eq_zero z)
      have hfe : (fun i j : Int => i * 2 ^ j.toNat) 1 ((fun i j : Int => i - j) (((M.map vB).length : Nat) : Int) 1) = ((2 ^ (M.length - 1) : Nat) : Int) := by
        show (1 : Int) * 2 ^ (((M.map vB).length : Nat) - (1 : Int)).toNat = _
        rw [lMp, Int.one_mul, show ((M.length : Nat) - (1 : Int)).toNat = M.length - 1 by omega, Int.natCast_pow]; rfl
      have hb40 : 2 ^ (M.length - 1) ≤ 2 ^ 40 := Nat.pow_le_pow_right (by decide) (by omega)
      have hb0 : 0 < 2 ^ (M.length - 1) := Nat.pow_pos (by decide)
      refine ⟨?_⟩
      walk_at "go"
      rw [hfe]
      refine ⟨rd_8 B (Int.ofNat_lt.mpr hb0) (Int.lt_of_le_of_lt (Int.ofNat_le.mpr hb40) (by decide)) fun W' c' e' => ?_⟩
      exact good W' c' ((((e1.trans e2).trans sW).then e57).trans e')
  refine ⟨?_⟩
  cases wd with
  | true =>
    walk_at "gx"
    refine ⟨a, st, n, 1, 40, rfl, c1, n0, n1, by decide, by decide, by decide, by decide, fun p M H2 np hp hM hf ne lM c2 e2 => ?_⟩
    refine ⟨f2 p M H2 np hp (fun t ht => let ⟨a1, a2, a3⟩ := hM t ht; ⟨a1, a2, Nat.le_trans a3 (by decide)⟩) (fun t ht => ⟨Nat.le_trans (hM t ht).2.2 (by decide), hf t ht⟩) ne (by omega) c2 e2⟩
  | false =>
    walk_at "gx"
    refine ⟨a, st, n, 6, 8, rfl, c1, n0, n1, by decide, by decide, by decide, by decide, fun p M H2 np hp hM hf ne lM c2 e2 => ?_⟩
    refine ⟨f2 p M H2 np hp (fun t ht => let ⟨a1, a2, a3⟩ := hM t ht; ⟨a1, a2, Nat.le_trans a3 (by decide)⟩) (fun t ht => ⟨Nat.le_trans (hM t ht).2.2 (by decide), hf t ht⟩) ne (by omega) c2 e2⟩
end S
namespace S
open PySem PySem.Spec PyProof.Rows L2
def t_law_b1 (K : Frag) (E : XK) : TS :=
    dIfS (dNot (dTest K (dCall (sp__law_round K) (EW E) (tCons (dVar 0) (tCons (dVar 1) (tCons (tOp (oEq K) (dVar 2) (tC (.int 1))) (tNil))))))) (tRet (tC (.bl false))) (tNext)
def t_law_2 (K : Frag) (E : XK) : TS :=
    tRet (tC (.bl true))
def t_law_1 (K : Frag) (E : XK) : TS :=
    tSeq (dFor (iRng (tCons (tOp (oAdd K) (tC (.int 1)) (dCall (sp__law_draw K) (EW E) (tCons (dVar 0) (tCons (dVar 1) (tCons (tC (.int 3)) (tNil)))))) (tNil))) (gName 2) (t_law_b1 K E))
    (stop (t_law_2 K E))
def t_law (K : Frag) (E : XK) : TS :=
    tSeq (tAsg (dLst (tCons (tC (.int 0)) (tCons (tC (.int 0)) (tCons (tC (.int 0)) (tCons (tC (.int 0)) (tNil)))))) (gName 1))
    (stop (t_law_1 K E))
end S
-- fn: law
-- law: k35
-- deps: _law_round _law_draw D0 D1
namespace S
open PySem PySem.Spec PyProof.Rows L2
theorem pure_law {K : Frag} (vs : List V) (H : Hp) (Q : VK) (E : XK) (h : sp_law K vs H Q E) : t_law K E { nx := fun _ H' => Q .non H', rt := Q } (start ["_law_script", "_law_state", "_law_k"] vs) H := by
  obtain ⟨a, ns, rfl, hs, qq⟩ := h
  walk_at "gx"
  refine ⟨fun st nst => ?_⟩
  have c1 : Ctx K (upd H st (.lst [.int 0, .int 0, .int 0, .int 0])) a st := ctx0 hs nst _ ⟨0, 0, 0, 0, rfl, by decide, by decide, .inl rfl⟩
  generalize upd H st (.lst [.int 0, .int 0, .int 0, .int 0]) = H1 at *
  walk_at "gx"
  refine ⟨a, st, _, rfl, c1, by decide, fun d1 H2 d10 d11 c2 e2 => ?_⟩
  have d11 : d1 < 3 := d11
  have bd : -(2 ^ 62) ≤ (1 : Int) + d1 ∧ (1 : Int) + d1 < 2 ^ 62 := by omega
  walk_at "gx"
  refine for_rng (fun i σ W => Ctx K W a st ∧ ∃ x2 : Option V, σ = [some (.ref a), some (.ref st), x2]) ⟨c2, none, rfl⟩ ?_ ?_
  · rintro i σ W hi ⟨cW, x2, rfl⟩
    walk_at "gx"
    refine ⟨a, st, decide ((i : Int) = 1), rfl, cW, fun W1 c3 e3 => ?_⟩
    dsimp only [dTru, isB]
    exact ⟨c3, _, rfl⟩
  · rintro σ W ⟨cW, x2, rfl⟩
    refine ⟨?_⟩
    walk_at "gx"
    exact qq W
end S

namespace S
open PySem PySem.Spec PyProof.Rows L2
theorem sc__law_draw : FnScope ["_law_script", "_law_state", "_law_base", "_law_here", "_law_number", "_law_digit", "_law_mixed"] ["_law_script", "_law_state", "_law_base"] (defScope s__law_draw) := ⟨rfl, rfl, rfl, by decide +kernel, rfl, by decide +kernel, by decide +kernel⟩
theorem sc__law_wide : FnScope ["_law_script", "_law_state", "_law_limit", "_law_number", "_law_k"] ["_law_script", "_law_state", "_law_limit"] (defScope s__law_wide) := ⟨rfl, rfl, rfl, by decide +kernel, rfl, by decide +kernel, by decide +kernel⟩
theorem sc__law_size : FnScope ["_law_script", "_law_state", "_law_kind"] ["_law_script", "_law_state"] (defScope s__law_size) := ⟨rfl, rfl, rfl, by decide +kernel, rfl, by decide +kernel, by decide +kernel⟩
theorem sc__law_ends : FnScope ["_law_script", "_law_state", "_law_size_here", "_law_most", "_law_ends_here", "_law_at", "_law_k", "_law_kind"] ["_law_script", "_law_state", "_law_size_here", "_law_most"] (defScope s__law_ends) := ⟨rfl, rfl, rfl, by decide +kernel, rfl, by decide +kernel, by decide +kernel⟩
theorem sc__law_places : FnScope ["_law_script", "_law_state", "_law_size_here", "_law_most", "_law_count", "_law_lists", "_law_k"] ["_law_script", "_law_state", "_law_size_here", "_law_most", "_law_count"] (defScope s__law_places) := ⟨rfl, rfl, rfl, by decide +kernel, rfl, by decide +kernel, by decide +kernel⟩
theorem sc__law_in : FnScope ["_law_ends_here", "_law_row", "_law_inside", "_law_end"] ["_law_ends_here", "_law_row"] (defScope s__law_in) := ⟨rfl, rfl, rfl, by decide +kernel, rfl, by decide +kernel, by decide +kernel⟩
theorem sc__law_rotated : FnScope ["_law_ends_here", "_law_size_here", "_law_shift", "_law_rotated_here", "_law_bit", "_law_row", "_law_now", "_law_end"] ["_law_ends_here", "_law_size_here", "_law_shift"] (defScope s__law_rotated) := ⟨rfl, rfl, rfl, by decide +kernel, rfl, by decide +kernel, by decide +kernel⟩
theorem sc__law_ones : FnScope ["_law_ends_here", "_law_size_here", "_law_many", "_law_k"] ["_law_ends_here", "_law_size_here"] (defScope s__law_ones) := ⟨rfl, rfl, rfl, by decide +kernel, rfl, by decide +kernel, by decide +kernel⟩
theorem sc__law_rows_of : FnScope ["_law_size_here", "_law_lists", "_law_rows", "_law_ends_here", "_law_end"] ["_law_size_here", "_law_lists"] (defScope s__law_rows_of) := ⟨rfl, rfl, rfl, by decide +kernel, rfl, by decide +kernel, by decide +kernel⟩
theorem sc__law_number_at : FnScope ["_law_lists", "_law_row", "_law_number", "_law_place"] ["_law_lists", "_law_row"] (defScope s__law_number_at) := ⟨rfl, rfl, rfl, by decide +kernel, rfl, by decide +kernel, by decide +kernel⟩
theorem sc__law_numbers : FnScope ["_law_lists", "_law_size_here", "_law_starts", "_law_k"] ["_law_lists", "_law_size_here"] (defScope s__law_numbers) := ⟨rfl, rfl, rfl, by decide +kernel, rfl, by decide +kernel, by decide +kernel⟩
theorem sc_Summarydd_initdd : FnScope ["self", "many", "counts", "count"] ["self", "many", "counts"] (defScope s_Summarydd_initdd) := ⟨rfl, rfl, rfl, by decide +kernel, rfl, by decide +kernel, by decide +kernel⟩
theorem sc_Summary_outside : FnScope ["self", "number", "equal"] ["self", "number", "equal"] (defScope s_Summary_outside) := ⟨rfl, rfl, rfl, by decide +kernel, rfl, by decide +kernel, by decide +kernel⟩
theorem sc_Summary_steps : FnScope ["self", "number", "equal", "wanted", "result", "place", "count", "bit", "top", "flipped", "matching"] ["self", "number", "equal"] (defScope s_Summary_steps) := ⟨rfl, rfl, rfl, by decide +kernel, rfl, by decide +kernel, by decide +kernel⟩
theorem sc_Summary_ranges : FnScope ["self", "steps", "least", "greatest", "result", "meets", "_", "matching"] ["self", "steps"] (defScope s_Summary_ranges) := ⟨rfl, rfl, rfl, by decide +kernel, rfl, by decide +kernel, by decide +kernel⟩
theorem sc_Summary_bounds : FnScope ["self", "number", "equal"] ["self", "number", "equal"] (defScope s_Summary_bounds) := ⟨rfl, rfl, rfl, by decide +kernel, rfl, by decide +kernel, by decide +kernel⟩
theorem sc__law_passes : FnScope ["_law_stretches", "_law_c", "_law_equal", "_law_passing_here", "_law_stretch"] ["_law_stretches", "_law_c", "_law_equal"] (defScope s__law_passes) := ⟨rfl, rfl, rfl, by decide +kernel, rfl, by decide +kernel, by decide +kernel⟩
theorem sc_weight_of : FnScope ["place", "width"] ["place", "width"] (defScope s_weight_of) := ⟨rfl, rfl, rfl, by decide +kernel, rfl, by decide +kernel, by decide +kernel⟩
theorem sc_Summary_total : FnScope ["self", "result", "place", "count"] ["self"] (defScope s_Summary_total) := ⟨rfl, rfl, rfl, by decide +kernel, rfl, by decide +kernel, by decide +kernel⟩
theorem sc_Summary_reach : FnScope ["self", "k", "side", "number", "step"] ["self", "k", "side"] (defScope s_Summary_reach) := ⟨rfl, rfl, rfl, by decide +kernel, rfl, by decide +kernel, by decide +kernel⟩
theorem sc_Summary_kth_bounds : FnScope ["self", "k"] ["self", "k"] (defScope s_Summary_kth_bounds) := ⟨rfl, rfl, rfl, by decide +kernel, rfl, by decide +kernel, by decide +kernel⟩
theorem sc__law_at_index : FnScope ["_law_stretches", "_law_k", "_law_left", "_law_stretch", "_law_part"] ["_law_stretches", "_law_k"] (defScope s__law_at_index) := ⟨rfl, rfl, rfl, by decide +kernel, rfl, by decide +kernel, by decide +kernel⟩
theorem sc_turned : FnScope ["ends", "size"] ["ends", "size"] (defScope s_turned) := ⟨rfl, rfl, rfl, by decide +kernel, rfl, by decide +kernel, by decide +kernel⟩
theorem sc_Bitmapdd_initdd : FnScope ["self", "size", "ends", "last", "end"] ["self", "size", "ends"] (defScope s_Bitmapdd_initdd) := ⟨rfl, rfl, rfl, by decide +kernel, rfl, by decide +kernel, by decide +kernel⟩
theorem sc_Bitmap_full : FnScope ["size"] ["size"] (defScope s_Bitmap_full) := ⟨rfl, rfl, rfl, by decide +kernel, rfl, by decide +kernel, by decide +kernel⟩
theorem sc_Bitmap_rank : FnScope ["self", "row", "below", "k", "end"] ["self", "row"] (defScope s_Bitmap_rank) := ⟨rfl, rfl, rfl, by decide +kernel, rfl, by decide +kernel, by decide +kernel⟩
theorem sc_Bitmap_ones : FnScope ["self"] ["self"] (defScope s_Bitmap_ones) := ⟨rfl, rfl, rfl, by decide +kernel, rfl, by decide +kernel, by decide +kernel⟩
theorem sc_Bitmap_runs : GScope ["self", "start", "end"] ["self"] (defScope s_Bitmap_runs) := ⟨rfl, rfl, rfl, by decide +kernel, rfl, by decide +kernel, by decide +kernel⟩
theorem sc_Bitmap_nth : FnScope ["self", "k", "left", "row", "start", "stop"] ["self", "k"] (defScope s_Bitmap_nth) := ⟨rfl, rfl, rfl, by decide +kernel, rfl, by decide +kernel, by decide +kernel⟩
theorem sc_Bitmap_span : FnScope ["size", "start", "stop"] ["size", "start", "stop"] (defScope s_Bitmap_span) := ⟨rfl, rfl, rfl, by decide +kernel, rfl, by decide +kernel, by decide +kernel⟩
theorem sc_next_end : FnScope ["one", "i", "other", "j"] ["one", "i", "other", "j"] (defScope s_next_end) := ⟨rfl, rfl, rfl, by decide +kernel, rfl, by decide +kernel, by decide +kernel⟩
theorem sc_swept : FnScope ["one", "other", "rule", "ends", "i", "j", "first", "second", "bit", "at"] ["one", "other", "rule"] (defScope s_swept) := ⟨rfl, rfl, rfl, by decide +kernel, rfl, by decide +kernel, by decide +kernel⟩
theorem sc_Bitmap_paired : FnScope ["self", "other", "rule"] ["self", "other", "rule"] (defScope s_Bitmap_paired) := ⟨rfl, rfl, rfl, by decide +kernel, rfl, by decide +kernel, by decide +kernel⟩
theorem sc_Bitmapdd_anddd : FnScope ["self", "other"] ["self", "other"] (defScope s_Bitmapdd_anddd) := ⟨rfl, rfl, rfl, by decide +kernel, rfl, by decide +kernel, by decide +kernel⟩
theorem sc_Bitmap_first : FnScope ["self", "k"] ["self", "k"] (defScope s_Bitmap_first) := ⟨rfl, rfl, rfl, by decide +kernel, rfl, by decide +kernel, by decide +kernel⟩
theorem sc_Bitmapdd_subdd : FnScope ["self", "other"] ["self", "other"] (defScope s_Bitmapdd_subdd) := ⟨rfl, rfl, rfl, by decide +kernel, rfl, by decide +kernel, by decide +kernel⟩
theorem sc_Bitmapdd_ordd : FnScope ["self", "other"] ["self", "other"] (defScope s_Bitmapdd_ordd) := ⟨rfl, rfl, rfl, by decide +kernel, rfl, by decide +kernel, by decide +kernel⟩
theorem sc_Bitmapdd_eqdd : FnScope ["self", "other"] ["self", "other"] (defScope s_Bitmapdd_eqdd) := ⟨rfl, rfl, rfl, by decide +kernel, rfl, by decide +kernel, by decide +kernel⟩
theorem sc_narrowed : FnScope ["slices", "kept"] ["slices"] (defScope s_narrowed) := ⟨rfl, rfl, rfl, by decide +kernel, rfl, by decide +kernel, by decide +kernel⟩
theorem sc_Columndd_initdd : FnScope ["self", "presence", "slices", "bitmap"] ["self", "presence", "slices"] (defScope s_Columndd_initdd) := ⟨rfl, rfl, rfl, by decide +kernel, rfl, by decide +kernel, by decide +kernel⟩
theorem sc_Summary_built : FnScope ["self", "steps", "wanted", "every", "ranges", "chosen", "slices", "place", "meets", "flipped", "matching", "rest", "match", "extra", "kept"] ["self", "steps", "wanted"] (defScope s_Summary_built) := ⟨rfl, rfl, rfl, by decide +kernel, rfl, by decide +kernel, by decide +kernel⟩
theorem sc_Summary_example : FnScope ["self", "number", "wanted", "equal", "least", "greatest"] ["self", "number", "wanted", "equal"] (defScope s_Summary_example) := ⟨rfl, rfl, rfl, by decide +kernel, rfl, by decide +kernel, by decide +kernel⟩
theorem sc__law_is_number : FnScope ["_law_x"] ["_law_x"] (defScope s__law_is_number) := ⟨rfl, rfl, rfl, by decide +kernel, rfl, by decide +kernel, by decide +kernel⟩
theorem sc__law_is_bitmap : FnScope ["_law_x", "_law_size_here", "_law_last", "_law_end"] ["_law_x", "_law_size_here"] (defScope s__law_is_bitmap) := ⟨rfl, rfl, rfl, by decide +kernel, rfl, by decide +kernel, by decide +kernel⟩
theorem sc__law_passing : FnScope ["_law_x", "_law_many", "_law_counts", "_law_c", "_law_equal", "_law_place", "_law_bitmap"] ["_law_x", "_law_many", "_law_counts", "_law_c", "_law_equal"] (defScope s__law_passing) := ⟨rfl, rfl, rfl, by decide +kernel, rfl, by decide +kernel, by decide +kernel⟩
theorem sc__law_refused : FnScope ["_law_summary", "_law_c", "_law_wanted", "_law_equal", "_law_told", "e"] ["_law_summary", "_law_c", "_law_wanted", "_law_equal"] (defScope s__law_refused) := ⟨rfl, rfl, rfl, by decide +kernel, rfl, by decide +kernel, by decide +kernel⟩
theorem sc__law_round : FnScope ["_law_script", "_law_state", "_law_wide_here", "_law_size_here", "_law_parts", "_law_moved", "_law_ends_here", "_law_counts", "_law_one", "_law_other", "_law_half", "_law_c", "_law_far", "_law_step", "_law_equal", "_law_summary", "_law_least", "_law_greatest", "_law_stretches", "_law_passing_here", "_law_low", "_law_high", "_law_own", "_law_between", "_law_wanted", "_law_stretch"] ["_law_script", "_law_state", "_law_wide_here"] (defScope s__law_round) := ⟨rfl, rfl, rfl, by decide +kernel, rfl, by decide +kernel, by decide +kernel⟩
theorem sc_law : FnScope ["_law_script", "_law_state", "_law_k"] ["_law_script"] (defScope s_law) := ⟨rfl, rfl, rfl, by decide +kernel, rfl, by decide +kernel, by decide +kernel⟩
structure T0 (P : Program) (K : Frag) (mg : Str → Option Value) : Prop where
  n_abs : mg "abs" = none
  n_bool : mg "bool" = none
  n_enumerate : mg "enumerate" = none
  n_int : mg "int" = none
  n_isinstance : mg "isinstance" = none
  n_len : mg "len" = none
  n_list : mg "list" = none
  n_max : mg "max" = none
  n_min : mg "min" = none
  n_range : mg "range" = none
  n_sorted : mg "sorted" = none
  n_sum : mg "sum" = none
  n_super : mg "super" = none
  n_tuple : mg "tuple" = none
  g_AND : mg "AND" = some (.ref (He.ga K "AND"))
  g_BadBitmap : mg "BadBitmap" = some (.ref (He.ga K "BadBitmap"))
  g_BadColumn : mg "BadColumn" = some (.ref (He.ga K "BadColumn"))
  g_BadSummary : mg "BadSummary" = some (.ref (He.ga K "BadSummary"))
  g_Bitmap : mg "Bitmap" = some (.ref (He.ga K "Bitmap"))
  g_Column : mg "Column" = some (.ref (He.ga K "Column"))
  g_LESS : mg "LESS" = some (.ref (He.ga K "LESS"))
  g_NoSuchRank : mg "NoSuchRank" = some (.ref (He.ga K "NoSuchRank"))
  g_NoSuchRow : mg "NoSuchRow" = some (.ref (He.ga K "NoSuchRow"))
  g_OR : mg "OR" = some (.ref (He.ga K "OR"))
  g_OutOfReach : mg "OutOfReach" = some (.ref (He.ga K "OutOfReach"))
  g_SizesDiffer : mg "SizesDiffer" = some (.ref (He.ga K "SizesDiffer"))
  g_Summary : mg "Summary" = some (.ref (He.ga K "Summary"))
  g__law_at_index : mg "_law_at_index" = some (.ref (He.ga K "_law_at_index"))
  g__law_draw : mg "_law_draw" = some (.ref (He.ga K "_law_draw"))
  g__law_ends : mg "_law_ends" = some (.ref (He.ga K "_law_ends"))
  g__law_in : mg "_law_in" = some (.ref (He.ga K "_law_in"))
  g__law_is_bitmap : mg "_law_is_bitmap" = some (.ref (He.ga K "_law_is_bitmap"))
  g__law_is_number : mg "_law_is_number" = some (.ref (He.ga K "_law_is_number"))
  g__law_number_at : mg "_law_number_at" = some (.ref (He.ga K "_law_number_at"))
  g__law_numbers : mg "_law_numbers" = some (.ref (He.ga K "_law_numbers"))
  g__law_ones : mg "_law_ones" = some (.ref (He.ga K "_law_ones"))
  g__law_passes : mg "_law_passes" = some (.ref (He.ga K "_law_passes"))
  g__law_passing : mg "_law_passing" = some (.ref (He.ga K "_law_passing"))
  g__law_places : mg "_law_places" = some (.ref (He.ga K "_law_places"))
  g__law_refused : mg "_law_refused" = some (.ref (He.ga K "_law_refused"))
  g__law_rotated : mg "_law_rotated" = some (.ref (He.ga K "_law_rotated"))
  g__law_round : mg "_law_round" = some (.ref (He.ga K "_law_round"))
  g__law_rows_of : mg "_law_rows_of" = some (.ref (He.ga K "_law_rows_of"))
  g__law_size : mg "_law_size" = some (.ref (He.ga K "_law_size"))
  g__law_wide : mg "_law_wide" = some (.ref (He.ga K "_law_wide"))
  g_law : mg "law" = some (.ref (He.ga K "law"))
  g_narrowed : mg "narrowed" = some (.ref (He.ga K "narrowed"))
  g_next_end : mg "next_end" = some (.ref (He.ga K "next_end"))
  g_swept : mg "swept" = some (.ref (He.ga K "swept"))
  g_turned : mg "turned" = some (.ref (He.ga K "turned"))
  g_weight_of : mg "weight_of" = some (.ref (He.ga K "weight_of"))
  F__law_draw : ∃ fd, FunD K "_law_draw" "_law_draw" (defArgs s__law_draw) (defBody s__law_draw) (defScope s__law_draw) [] [] (He.fAd K ("_law_draw", none)) fd
  k__law_draw : PySem.W.keepIn K (.ref (He.fAd K ("_law_draw", none))) = true
  F__law_wide : ∃ fd, FunD K "_law_wide" "_law_wide" (defArgs s__law_wide) (defBody s__law_wide) (defScope s__law_wide) [] [] (He.fAd K ("_law_wide", none)) fd
  k__law_wide : PySem.W.keepIn K (.ref (He.fAd K ("_law_wide", none))) = true
  F__law_size : ∃ fd, FunD K "_law_size" "_law_size" (defArgs s__law_size) (defBody s__law_size) (defScope s__law_size) [] [] (He.fAd K ("_law_size", none)) fd
  k__law_size : PySem.W.keepIn K (.ref (He.fAd K ("_law_size", none))) = true
  F__law_ends : ∃ fd, FunD K "_law_ends" "_law_ends" (defArgs s__law_ends) (defBody s__law_ends) (defScope s__law_ends) [] [] (He.fAd K ("_law_ends", none)) fd
  k__law_ends : PySem.W.keepIn K (.ref (He.fAd K ("_law_ends", none))) = true
  F__law_places : ∃ fd, FunD K "_law_places" "_law_places" (defArgs s__law_places) (defBody s__law_places) (defScope s__law_places) [] [] (He.fAd K ("_law_places", none)) fd
  k__law_places : PySem.W.keepIn K (.ref (He.fAd K ("_law_places", none))) = true
  F__law_in : ∃ fd, FunD K "_law_in" "_law_in" (defArgs s__law_in) (defBody s__law_in) (defScope s__law_in) [] [] (He.fAd K ("_law_in", none)) fd
  k__law_in : PySem.W.keepIn K (.ref (He.fAd K ("_law_in", none))) = true
  F__law_rotated : ∃ fd, FunD K "_law_rotated" "_law_rotated" (defArgs s__law_rotated) (defBody s__law_rotated) (defScope s__law_rotated) [] [] (He.fAd K ("_law_rotated", none)) fd
  k__law_rotated : PySem.W.keepIn K (.ref (He.fAd K ("_law_rotated", none))) = true
  F__law_ones : ∃ fd, FunD K "_law_ones" "_law_ones" (defArgs s__law_ones) (defBody s__law_ones) (defScope s__law_ones) [] [] (He.fAd K ("_law_ones", none)) fd
  k__law_ones : PySem.W.keepIn K (.ref (He.fAd K ("_law_ones", none))) = true
  F__law_rows_of : ∃ fd, FunD K "_law_rows_of" "_law_rows_of" (defArgs s__law_rows_of) (defBody s__law_rows_of) (defScope s__law_rows_of) [] [] (He.fAd K ("_law_rows_of", none)) fd
  k__law_rows_of : PySem.W.keepIn K (.ref (He.fAd K ("_law_rows_of", none))) = true
  F__law_number_at : ∃ fd, FunD K "_law_number_at" "_law_number_at" (defArgs s__law_number_at) (defBody s__law_number_at) (defScope s__law_number_at) [] [] (He.fAd K ("_law_number_at", none)) fd
  k__law_number_at : PySem.W.keepIn K (.ref (He.fAd K ("_law_number_at", none))) = true
  F__law_numbers : ∃ fd, FunD K "_law_numbers" "_law_numbers" (defArgs s__law_numbers) (defBody s__law_numbers) (defScope s__law_numbers) [] [] (He.fAd K ("_law_numbers", none)) fd
  k__law_numbers : PySem.W.keepIn K (.ref (He.fAd K ("_law_numbers", none))) = true
  F_Summarydd_initdd : ∃ fd, FunD K "__init__" "Summary.__init__" (defArgs s_Summarydd_initdd) (defBody s_Summarydd_initdd) (defScope s_Summarydd_initdd) [] [] (He.fAd K ("Summary", some "__init__")) fd
  k_Summarydd_initdd : PySem.W.keepIn K (.ref (He.fAd K ("Summary", some "__init__"))) = true
  F_Summary_outside : ∃ fd, FunD K "outside" "Summary.outside" (defArgs s_Summary_outside) (defBody s_Summary_outside) (defScope s_Summary_outside) [] [] (He.fAd K ("Summary", some "outside")) fd
  k_Summary_outside : PySem.W.keepIn K (.ref (He.fAd K ("Summary", some "outside"))) = true
  F_Summary_steps : ∃ fd, FunD K "steps" "Summary.steps" (defArgs s_Summary_steps) (defBody s_Summary_steps) (defScope s_Summary_steps) [] [] (He.fAd K ("Summary", some "steps")) fd
  k_Summary_steps : PySem.W.keepIn K (.ref (He.fAd K ("Summary", some "steps"))) = true
  F_Summary_ranges : ∃ fd, FunD K "ranges" "Summary.ranges" (defArgs s_Summary_ranges) (defBody s_Summary_ranges) (defScope s_Summary_ranges) [] [] (He.fAd K ("Summary", some "ranges")) fd
  k_Summary_ranges : PySem.W.keepIn K (.ref (He.fAd K ("Summary", some "ranges"))) = true
  F_Summary_bounds : ∃ fd, FunD K "bounds" "Summary.bounds" (defArgs s_Summary_bounds) (defBody s_Summary_bounds) (defScope s_Summary_bounds) [] [("equal", V.bl false)] (He.fAd K ("Summary", some "bounds")) fd
  k_Summary_bounds : PySem.W.keepIn K (.ref (He.fAd K ("Summary", some "bounds"))) = true
  F__law_passes : ∃ fd, FunD K "_law_passes" "_law_passes" (defArgs s__law_passes) (defBody s__law_passes) (defScope s__law_passes) [] [] (He.fAd K ("_law_passes", none)) fd
  k__law_passes : PySem.W.keepIn K (.ref (He.fAd K ("_law_passes", none))) = true
  F_weight_of : ∃ fd, FunD K "weight_of" "weight_of" (defArgs s_weight_of) (defBody s_weight_of) (defScope s_weight_of) [] [] (He.fAd K ("weight_of", none)) fd
  k_weight_of : PySem.W.keepIn K (.ref (He.fAd K ("weight_of", none))) = true
  F_Summary_total : ∃ fd, FunD K "total" "Summary.total" (defArgs s_Summary_total) (defBody s_Summary_total) (defScope s_Summary_total) [] [] (uA K "Summary" "total") fd
  k_Summary_total : PySem.W.keepIn K (.ref (uA K "Summary" "total")) = true
  F_Summary_reach : ∃ fd, FunD K "reach" "Summary.reach" (defArgs s_Summary_reach) (defBody s_Summary_reach) (defScope s_Summary_reach) [] [] (He.fAd K ("Summary", some "reach")) fd
  k_Summary_reach : PySem.W.keepIn K (.ref (He.fAd K ("Summary", some "reach"))) = true
  F_Summary_kth_bounds : ∃ fd, FunD K "kth_bounds" "Summary.kth_bounds" (defArgs s_Summary_kth_bounds) (defBody s_Summary_kth_bounds) (defScope s_Summary_kth_bounds) [] [] (He.fAd K ("Summary", some "kth_bounds")) fd
  k_Summary_kth_bounds : PySem.W.keepIn K (.ref (He.fAd K ("Summary", some "kth_bounds"))) = true
  F__law_at_index : ∃ fd, FunD K "_law_at_index" "_law_at_index" (defArgs s__law_at_index) (defBody s__law_at_index) (defScope s__law_at_index) [] [] (He.fAd K ("_law_at_index", none)) fd
  k__law_at_index : PySem.W.keepIn K (.ref (He.fAd K ("_law_at_index", none))) = true
  F_turned : ∃ fd, FunD K "turned" "turned" (defArgs s_turned) (defBody s_turned) (defScope s_turned) [] [] (He.fAd K ("turned", none)) fd
  k_turned : PySem.W.keepIn K (.ref (He.fAd K ("turned", none))) = true
  F_Bitmapdd_initdd : ∃ fd, FunD K "__init__" "Bitmap.__init__" (defArgs s_Bitmapdd_initdd) (defBody s_Bitmapdd_initdd) (defScope s_Bitmapdd_initdd) [V.ref (He.dflAt ("Bitmap", some "__init__") 0 K)] [] (He.fAd K ("Bitmap", some "__init__")) fd
  k_Bitmapdd_initdd : PySem.W.keepIn K (.ref (He.fAd K ("Bitmap", some "__init__"))) = true
  F_Bitmap_full : ∃ fd, FunD K "full" "Bitmap.full" (defArgs s_Bitmap_full) (defBody s_Bitmap_full) (defScope s_Bitmap_full) [] [] (uA K "Bitmap" "full") fd
  k_Bitmap_full : PySem.W.keepIn K (.ref (uA K "Bitmap" "full")) = true
  F_Bitmap_rank : ∃ fd, FunD K "rank" "Bitmap.rank" (defArgs s_Bitmap_rank) (defBody s_Bitmap_rank) (defScope s_Bitmap_rank) [] [] (He.fAd K ("Bitmap", some "rank")) fd
  k_Bitmap_rank : PySem.W.keepIn K (.ref (He.fAd K ("Bitmap", some "rank"))) = true
  F_Bitmap_ones : ∃ fd, FunD K "ones" "Bitmap.ones" (defArgs s_Bitmap_ones) (defBody s_Bitmap_ones) (defScope s_Bitmap_ones) [] [] (uA K "Bitmap" "ones") fd
  k_Bitmap_ones : PySem.W.keepIn K (.ref (uA K "Bitmap" "ones")) = true
  F_Bitmap_runs : ∃ fd, FunD K "runs" "Bitmap.runs" (defArgs s_Bitmap_runs) (defBody s_Bitmap_runs) (defScope s_Bitmap_runs) [] [] (He.fAd K ("Bitmap", some "runs")) fd
  k_Bitmap_runs : PySem.W.keepIn K (.ref (He.fAd K ("Bitmap", some "runs"))) = true
  F_Bitmap_nth : ∃ fd, FunD K "nth" "Bitmap.nth" (defArgs s_Bitmap_nth) (defBody s_Bitmap_nth) (defScope s_Bitmap_nth) [] [] (He.fAd K ("Bitmap", some "nth")) fd
  k_Bitmap_nth : PySem.W.keepIn K (.ref (He.fAd K ("Bitmap", some "nth"))) = true
  F_Bitmap_span : ∃ fd, FunD K "span" "Bitmap.span" (defArgs s_Bitmap_span) (defBody s_Bitmap_span) (defScope s_Bitmap_span) [] [] (uA K "Bitmap" "span") fd
  k_Bitmap_span : PySem.W.keepIn K (.ref (uA K "Bitmap" "span")) = true
  F_next_end : ∃ fd, FunD K "next_end" "next_end" (defArgs s_next_end) (defBody s_next_end) (defScope s_next_end) [] [] (He.fAd K ("next_end", none)) fd
  k_next_end : PySem.W.keepIn K (.ref (He.fAd K ("next_end", none))) = true
  F_swept : ∃ fd, FunD K "swept" "swept" (defArgs s_swept) (defBody s_swept) (defScope s_swept) [] [] (He.fAd K ("swept", none)) fd
  k_swept : PySem.W.keepIn K (.ref (He.fAd K ("swept", none))) = true
  F_Bitmap_paired : ∃ fd, FunD K "paired" "Bitmap.paired" (defArgs s_Bitmap_paired) (defBody s_Bitmap_paired) (defScope s_Bitmap_paired) [] [] (He.fAd K ("Bitmap", some "paired")) fd
  k_Bitmap_paired : PySem.W.keepIn K (.ref (He.fAd K ("Bitmap", some "paired"))) = true
  F_Bitmapdd_anddd : ∃ fd, FunD K "__and__" "Bitmap.__and__" (defArgs s_Bitmapdd_anddd) (defBody s_Bitmapdd_anddd) (defScope s_Bitmapdd_anddd) [] [] (He.fAd K ("Bitmap", some "__and__")) fd
  k_Bitmapdd_anddd : PySem.W.keepIn K (.ref (He.fAd K ("Bitmap", some "__and__"))) = true
  F_Bitmap_first : ∃ fd, FunD K "first" "Bitmap.first" (defArgs s_Bitmap_first) (defBody s_Bitmap_first) (defScope s_Bitmap_first) [] [] (He.fAd K ("Bitmap", some "first")) fd
  k_Bitmap_first : PySem.W.keepIn K (.ref (He.fAd K ("Bitmap", some "first"))) = true
  F_Bitmapdd_subdd : ∃ fd, FunD K "__sub__" "Bitmap.__sub__" (defArgs s_Bitmapdd_subdd) (defBody s_Bitmapdd_subdd) (defScope s_Bitmapdd_subdd) [] [] (He.fAd K ("Bitmap", some "__sub__")) fd
  k_Bitmapdd_subdd : PySem.W.keepIn K (.ref (He.fAd K ("Bitmap", some "__sub__"))) = true
  F_Bitmapdd_ordd : ∃ fd, FunD K "__or__" "Bitmap.__or__" (defArgs s_Bitmapdd_ordd) (defBody s_Bitmapdd_ordd) (defScope s_Bitmapdd_ordd) [] [] (He.fAd K ("Bitmap", some "__or__")) fd
  k_Bitmapdd_ordd : PySem.W.keepIn K (.ref (He.fAd K ("Bitmap", some "__or__"))) = true
  F_Bitmapdd_eqdd : ∃ fd, FunD K "__eq__" "Bitmap.__eq__" (defArgs s_Bitmapdd_eqdd) (defBody s_Bitmapdd_eqdd) (defScope s_Bitmapdd_eqdd) [] [] (He.fAd K ("Bitmap", some "__eq__")) fd
  k_Bitmapdd_eqdd : PySem.W.keepIn K (.ref (He.fAd K ("Bitmap", some "__eq__"))) = true
  F_narrowed : ∃ fd, FunD K "narrowed" "narrowed" (defArgs s_narrowed) (defBody s_narrowed) (defScope s_narrowed) [] [] (He.fAd K ("narrowed", none)) fd
  k_narrowed : PySem.W.keepIn K (.ref (He.fAd K ("narrowed", none))) = true
  F_Columndd_initdd : ∃ fd, FunD K "__init__" "Column.__init__" (defArgs s_Columndd_initdd) (defBody s_Columndd_initdd) (defScope s_Columndd_initdd) [] [] (He.fAd K ("Column", some "__init__")) fd
  k_Columndd_initdd : PySem.W.keepIn K (.ref (He.fAd K ("Column", some "__init__"))) = true
  F_Summary_built : ∃ fd, FunD K "built" "Summary.built" (defArgs s_Summary_built) (defBody s_Summary_built) (defScope s_Summary_built) [] [] (He.fAd K ("Summary", some "built")) fd
  k_Summary_built : PySem.W.keepIn K (.ref (He.fAd K ("Summary", some "built"))) = true
  F_Summary_example : ∃ fd, FunD K "example" "Summary.example" (defArgs s_Summary_example) (defBody s_Summary_example) (defScope s_Summary_example) [] [("equal", V.bl false)] (He.fAd K ("Summary", some "example")) fd
  k_Summary_example : PySem.W.keepIn K (.ref (He.fAd K ("Summary", some "example"))) = true
  F__law_is_number : ∃ fd, FunD K "_law_is_number" "_law_is_number" (defArgs s__law_is_number) (defBody s__law_is_number) (defScope s__law_is_number) [] [] (He.fAd K ("_law_is_number", none)) fd
  k__law_is_number : PySem.W.keepIn K (.ref (He.fAd K ("_law_is_number", none))) = true
  F__law_is_bitmap : ∃ fd, FunD K "_law_is_bitmap" "_law_is_bitmap" (defArgs s__law_is_bitmap) (defBody s__law_is_bitmap) (defScope s__law_is_bitmap) [] [] (He.fAd K ("_law_is_bitmap", none)) fd
  k__law_is_bitmap : PySem.W.keepIn K (.ref (He.fAd K ("_law_is_bitmap", none))) = true
  F__law_passing : ∃ fd, FunD K "_law_passing" "_law_passing" (defArgs s__law_passing) (defBody s__law_passing) (defScope s__law_passing) [] [] (He.fAd K ("_law_passing", none)) fd
  k__law_passing : PySem.W.keepIn K (.ref (He.fAd K ("_law_passing", none))) = true
  F__law_refused : ∃ fd, FunD K "_law_refused" "_law_refused" (defArgs s__law_refused) (defBody s__law_refused) (defScope s__law_refused) [] [] (He.fAd K ("_law_refused", none)) fd
  k__law_refused : PySem.W.keepIn K (.ref (He.fAd K ("_law_refused", none))) = true
  F__law_round : ∃ fd, FunD K "_law_round" "_law_round" (defArgs s__law_round) (defBody s__law_round) (defScope s__law_round) [] [] (He.fAd K ("_law_round", none)) fd
  k__law_round : PySem.W.keepIn K (.ref (He.fAd K ("_law_round", none))) = true
  F_law : ∃ fd, FunD K "law" "law" (defArgs s_law) (defBody s_law) (defScope s_law) [] [] (He.fAd K ("law", none)) fd
  k_law : PySem.W.keepIn K (.ref (He.fAd K ("law", none))) = true
  C_Bitmap : CF K "Bitmap" ["ends", "size"]
  C_Column : CF K "Column" ["presence", "size", "slices", "width"]
  D_Summary : DF K "Summary" [] ["many", "counts", "half"]
  E_Bitmapdd_initdd_0 : EmpT K (V.ref (He.dflAt ("Bitmap", some "__init__") 0 K))
  K_Bitmap : Mk K (He.ga K "Bitmap") (He.fAd K ("Bitmap", some "__init__"))
  K_Column : Mk K (He.ga K "Column") (He.fAd K ("Column", some "__init__"))
  K_Summary : Mk K (He.ga K "Summary") (He.fAd K ("Summary", some "__init__"))
  M_Bitmap_first : Meth K (He.ga K "Bitmap") "first" (He.fAd K ("Bitmap", some "first"))
  M_Bitmap_nth : Meth K (He.ga K "Bitmap") "nth" (He.fAd K ("Bitmap", some "nth"))
  M_Bitmap_paired : Meth K (He.ga K "Bitmap") "paired" (He.fAd K ("Bitmap", some "paired"))
  M_Bitmap_rank : Meth K (He.ga K "Bitmap") "rank" (He.fAd K ("Bitmap", some "rank"))
  M_Bitmap_runs : Meth K (He.ga K "Bitmap") "runs" (He.fAd K ("Bitmap", some "runs"))
  M_Bitmapdd_anddd : Meth K (He.ga K "Bitmap") "__and__" (He.fAd K ("Bitmap", some "__and__"))
  M_Bitmapdd_eqdd : Meth K (He.ga K "Bitmap") "__eq__" (He.fAd K ("Bitmap", some "__eq__"))
  M_Bitmapdd_ordd : Meth K (He.ga K "Bitmap") "__or__" (He.fAd K ("Bitmap", some "__or__"))
  M_Bitmapdd_subdd : Meth K (He.ga K "Bitmap") "__sub__" (He.fAd K ("Bitmap", some "__sub__"))
  M_Summary_bounds : Meth K (He.ga K "Summary") "bounds" (He.fAd K ("Summary", some "bounds"))
  M_Summary_built : Meth K (He.ga K "Summary") "built" (He.fAd K ("Summary", some "built"))
  M_Summary_example : Meth K (He.ga K "Summary") "example" (He.fAd K ("Summary", some "example"))
  M_Summary_kth_bounds : Meth K (He.ga K "Summary") "kth_bounds" (He.fAd K ("Summary", some "kth_bounds"))
  M_Summary_outside : Meth K (He.ga K "Summary") "outside" (He.fAd K ("Summary", some "outside"))
  M_Summary_ranges : Meth K (He.ga K "Summary") "ranges" (He.fAd K ("Summary", some "ranges"))
  M_Summary_reach : Meth K (He.ga K "Summary") "reach" (He.fAd K ("Summary", some "reach"))
  M_Summary_steps : Meth K (He.ga K "Summary") "steps" (He.fAd K ("Summary", some "steps"))
  P_Bitmap_ones : PropF K "Bitmap" "ones" (uA K "Bitmap" "ones")
  P_Summary_total : PropF K "Summary" "total" (uA K "Summary" "total")
  R_BadBitmap : RsF K "BadBitmap"
  R_BadColumn : RsF K "BadColumn"
  R_BadSummary : RsF K "BadSummary"
  R_SizesDiffer : RsF K "SizesDiffer"
  St_Bitmap_full : StF K "Bitmap" "full"
  St_Bitmap_span : StF K "Bitmap" "span"
  U_AND : TupG K "AND" [V.int 0, V.int 0, V.int 0, V.int 1]
  U_LESS : TupG K "LESS" [V.int 0, V.int 0, V.int 1, V.int 0]
  U_OR : TupG K "OR" [V.int 0, V.int 1, V.int 1, V.int 1]
  X_BadBitmap : ExF K "BadBitmap" ["SliceError"]
  X_BadColumn : ExF K "BadColumn" ["SliceError"]
  X_BadSummary : ExF K "BadSummary" ["SliceError"]
  X_NoSuchRank : ExF K "NoSuchRank" ["SliceError"]
  X_NoSuchRow : ExF K "NoSuchRow" ["SliceError"]
  X_OutOfReach : ExF K "OutOfReach" ["SliceError"]
  X_SizesDiffer : ExF K "SizesDiffer" ["SliceError"]
  Xf_OutOfReach_number : XfF K "OutOfReach" "number"
  Xi_NoSuchRank : ∃ fd, XiF P K "NoSuchRank" "number" "__init__" "NoSuchRank.__init__" (defArgs s_NoSuchRankdd_initdd) (defBody s_NoSuchRankdd_initdd) (defScope s_NoSuchRankdd_initdd) (He.fAd K ("NoSuchRank", some "__init__")) fd
  Xi_NoSuchRow : ∃ fd, XiF P K "NoSuchRow" "row" "__init__" "NoSuchRow.__init__" (defArgs s_NoSuchRowdd_initdd) (defBody s_NoSuchRowdd_initdd) (defScope s_NoSuchRowdd_initdd) (He.fAd K ("NoSuchRow", some "__init__")) fd
  Xi_OutOfReach : ∃ fd, XiF P K "OutOfReach" "number" "__init__" "OutOfReach.__init__" (defArgs s_OutOfReachdd_initdd) (defBody s_OutOfReachdd_initdd) (defScope s_OutOfReachdd_initdd) (He.fAd K ("OutOfReach", some "__init__")) fd
section
variable {P : Program} {w : World} {K : Frag} {mg : Str → Option Value} {base : Heap}
theorem ok__law_draw (T : T0 P K mg) : FR P w K mg base 1 (He.fAd K ("_law_draw", none)) (sp__law_draw K) := by
  obtain ⟨fd, F⟩ := T.F__law_draw
  refine mk_fn F sc__law_draw (fun vs H Q E h => by
    revert h; intro h; (repeat (first | (obtain ⟨rfl, _⟩ := h; exact rfl) | obtain ⟨_, h⟩ := h))) (fun _ _ _ _ _ _ us hl => match us, hl with | [_, _, _], _ => rfl) (t := t__law_draw K) (fun cdv A outer s H E hr => ?_) (fun vs H Q E h => pure__law_draw vs H Q E h)
  exact pss_cons (ps_if (pt_cmp (o_eq hr.units) (pe_ix ix_any (pv 1) (pe_int) (fun _ _ => rfl)) (pe_int) (nomark _)) (pss_cons (ps_set (i := 3) sc__law_draw.nd rfl (Or.inl rfl) (pe_ix ix_any (pv 1) (pe_int) (fun _ _ => rfl)))
    (pss_cons (ps_asg (pe_op o_add (pv 3) (pe_int)) (pg_sub (pv 1) (pe_int) s_list))
    (pss_cons (ps_if (pt_cmp o_ge (pv 3) (pe_cb c_len T.n_len (by decide +kernel) (pa_cons (pv 0) (pa_nil))) (nomark _)) (pss_one (ps_ret (pe_int))) (pss_nil))
    (pss_cons (ps_asg (pe_cb c_abs T.n_abs (by decide +kernel) (pa_cons (pe_ix ix_any (pv 0) (pv 3) (fun _ _ => rfl)) (pa_nil))) (pg_sub (pv 1) (pe_int) s_list))
    (pss_cons (ps_asg (pe_ct c_int T.n_int (by decide +kernel) (pa_cons (pe_cmp o_lt (pe_ix ix_any (pv 0) (pv 3) (fun _ _ => rfl)) (pe_int) (nomark _)) (pa_nil))) (pg_sub (pv 1) (pe_int) s_list))
    (pss_cons (ps_asg (pe_int) (pg_sub (pv 1) (pe_int) s_list))
    (pss_one (ps_if (pt_cmp o_ge (pe_ix ix_any (pv 1) (pe_int) (fun _ _ => rfl)) (pe_op o_pow (pe_int) (pe_int)) (nomark _)) (pss_cons (ps_asg (pe_int) (pg_sub (pv 1) (pe_int) s_list))
    (pss_one (ps_asg (pe_int) (pg_sub (pv 1) (pe_int) s_list)))) (pss_nil))))))))) (pss_nil))
    (pss_stop (pss_cons (ps_asg (pe_op o_sub (pe_ix ix_any (pv 1) (pe_int) (fun _ _ => rfl)) (pe_int)) (pg_sub (pv 1) (pe_int) s_list))
    (pss_stop (pss_cons (ps_set (i := 4) sc__law_draw.nd rfl (Or.inl rfl) (pe_ct c_int T.n_int (by decide +kernel) (pa_cons (pe_ix ix_any (pv 1) (pe_int) (fun _ _ => rfl)) (pa_nil))))
    (pss_stop (pss_cons (ps_if (pt_cmp (o_eq hr.units) (pe_ix ix_any (pv 1) (pe_int) (fun _ _ => rfl)) (pe_int) (nomark _)) (pss_cons (ps_asg (pe_op o_fdiv (pv 4) (pe_int)) (pg_sub (pv 1) (pe_int) s_list))
    (pss_cons (ps_if (pt_cmp (o_eq hr.units) (pe_ix ix_any (pv 1) (pe_int) (fun _ _ => rfl)) (pe_int) (nomark _)) (pss_one (ps_asg (pe_int) (pg_sub (pv 1) (pe_int) s_list))) (pss_nil))
    (pss_cons (ps_set (i := 5) sc__law_draw.nd rfl (Or.inl rfl) (pe_op o_mod (pe_ct c_int T.n_int (by decide +kernel) (pa_cons (pv 4) (pa_nil))) (pe_int)))
    (pss_one (ps_ret (pe_op o_mod (pe_ct c_int T.n_int (by decide +kernel) (pa_cons (pv 5) (pa_nil))) (pv 2))))))) (pss_nil))
    (pss_stop (pss_cons (ps_set (i := 6) sc__law_draw.nd rfl (Or.inl rfl) (pe_op o_mod (pe_ct c_int T.n_int (by decide +kernel) (pa_cons (pe_op o_add (pe_op o_mulA (pv 4) (pe_op o_add (pe_op o_add (pe_int) (pe_op o_mulA (pe_int) (pe_ix ix_any (pv 1) (pe_int) (fun _ _ => rfl)))) (pe_op o_mulA (pe_int) (pe_ix ix_any (pv 1) (pe_int) (fun _ _ => rfl))))) (pe_op o_mulA (pe_int) (pe_ix ix_any (pv 1) (pe_int) (fun _ _ => rfl)))) (pa_nil))) (pe_int)))
    (pss_stop (pss_cons (ps_set (i := 6) sc__law_draw.nd rfl (Or.inl rfl) (pe_op o_mod (pe_ct c_int T.n_int (by decide +kernel) (pa_cons (pe_op o_add (pe_op o_mulA (pv 6) (pv 6)) (pv 4)) (pa_nil))) (pe_int)))
    (pss_stop (pss_cons (ps_set (i := 6) sc__law_draw.nd rfl (Or.inl rfl) (pe_op o_mod (pe_ct c_int T.n_int (by decide +kernel) (pa_cons (pe_op o_mulA (pv 6) (pv 6)) (pa_nil))) (pe_int)))
    (pss_stop (pss_one (ps_ret (pe_op o_mod (pe_ct c_int T.n_int (by decide +kernel) (pa_cons (pv 6) (pa_nil))) (pv 2)))))))))))))))))
theorem ok__law_wide (T : T0 P K mg) : FR P w K mg base 2 (He.fAd K ("_law_wide", none)) (sp__law_wide K) := by
  obtain ⟨fd, F⟩ := T.F__law_wide
  have G__law_draw := ok__law_draw (P := P) (w := w) (base := base) T
  refine mk_fn F sc__law_wide (fun vs H Q E h => by
    revert h; intro h; (repeat (first | (obtain ⟨rfl, _⟩ := h; exact rfl) | obtain ⟨_, h⟩ := h))) (fun _ _ _ _ _ _ us hl => match us, hl with | [_, _, _], _ => rfl) (t := t__law_wide K) (fun cdv A outer s H E hr => ?_) (fun vs H Q E h => pure__law_wide vs H Q E h)
  exact pss_cons (ps_set (i := 3) sc__law_wide.nd rfl (Or.inl rfl) (pe_int))
    (pss_stop (pss_cons (ps_for ownD rfl (pi_rng (by rfl) T.n_range (pa_cons (pe_int) (pa_nil))) (pg_name (i := 4) sc__law_wide.nd rfl (Or.inl rfl)) (pss_one (ps_set (i := 3) sc__law_wide.nd rfl (Or.inl rfl) (pe_op o_add (pe_op o_mulA (pv 3) (pe_int)) (pe_call (G__law_draw) (hr.mono (by decide)) T.g__law_draw T.k__law_draw passD (pa_cons (pv 0) (pa_cons (pv 1) (pa_cons (pe_int) (pa_nil)))))))))
    (pss_stop (pss_one (ps_ret (pe_op o_mod (pe_ct c_int T.n_int (by decide +kernel) (pa_cons (pv 3) (pa_nil))) (pv 2)))))))
theorem ok__law_size (T : T0 P K mg) : FR P w K mg base 3 (He.fAd K ("_law_size", none)) (sp__law_size K) := by
  obtain ⟨fd, F⟩ := T.F__law_size
  have G__law_draw := ok__law_draw (P := P) (w := w) (base := base) T
  have G__law_wide := ok__law_wide (P := P) (w := w) (base := base) T
  refine mk_fn F sc__law_size (fun vs H Q E h => by
    revert h; intro h; (repeat (first | (obtain ⟨rfl, _⟩ := h; exact rfl) | obtain ⟨_, h⟩ := h))) (fun _ _ _ _ _ _ us hl => match us, hl with | [_, _], _ => rfl) (t := t__law_size K) (fun cdv A outer s H E hr => ?_) (fun vs H Q E h => pure__law_size vs H Q E h)
  exact pss_cons (ps_set (i := 2) sc__law_size.nd rfl (Or.inl rfl) (pe_call (G__law_draw) (hr.mono (by decide)) T.g__law_draw T.k__law_draw passD (pa_cons (pv 0) (pa_cons (pv 1) (pa_cons (pe_int) (pa_nil))))))
    (pss_stop (pss_cons (ps_if (pt_cmp (o_eq hr.units) (pv 2) (pe_int) (nomark _)) (pss_one (ps_ret (pe_call (G__law_draw) (hr.mono (by decide)) T.g__law_draw T.k__law_draw passD (pa_cons (pv 0) (pa_cons (pv 1) (pa_cons (pe_int) (pa_nil))))))) (pss_nil))
    (pss_stop (pss_cons (ps_if (pt_cmp (o_eq hr.units) (pv 2) (pe_int) (nomark _)) (pss_one (ps_ret (pe_call (G__law_draw) (hr.mono (by decide)) T.g__law_draw T.k__law_draw passD (pa_cons (pv 0) (pa_cons (pv 1) (pa_cons (pe_int) (pa_nil))))))) (pss_nil))
    (pss_stop (pss_cons (ps_if (pt_cmp (o_eq hr.units) (pv 2) (pe_int) (nomark _)) (pss_one (ps_ret (pe_call (G__law_draw) (hr.mono (by decide)) T.g__law_draw T.k__law_draw passD (pa_cons (pv 0) (pa_cons (pv 1) (pa_cons (pe_int) (pa_nil))))))) (pss_nil))
    (pss_stop (pss_cons (ps_if (pt_cmp (o_eq hr.units) (pv 2) (pe_int) (nomark _)) (pss_one (ps_ret (pe_op o_sub (pe_op o_pow (pe_int) (pe_int)) (pe_call (G__law_draw) (hr.mono (by decide)) T.g__law_draw T.k__law_draw passD (pa_cons (pv 0) (pa_cons (pv 1) (pa_cons (pe_int) (pa_nil)))))))) (pss_nil))
    (pss_stop (pss_one (ps_ret (pe_op o_add (pe_call (G__law_wide) (hr.mono (by decide)) T.g__law_wide T.k__law_wide passD (pa_cons (pv 0) (pa_cons (pv 1) (pa_cons (pe_op o_pow (pe_int) (pe_int)) (pa_nil))))) (pe_int)))))))))))))
theorem ok__law_ends (T : T0 P K mg) : FR P w K mg base 3 (He.fAd K ("_law_ends", none)) (sp__law_ends K) := by
  obtain ⟨fd, F⟩ := T.F__law_ends
  have G__law_draw := ok__law_draw (P := P) (w := w) (base := base) T
  have G__law_wide := ok__law_wide (P := P) (w := w) (base := base) T
  refine mk_fn F sc__law_ends (fun vs H Q E h => by
    revert h; intro h; (repeat (first | (obtain ⟨rfl, _⟩ := h; exact rfl) | obtain ⟨_, h⟩ := h))) (fun _ _ _ _ _ _ us hl => match us, hl with | [_, _, _, _], _ => rfl) (t := t__law_ends K) (fun cdv A outer s H E hr => ?_) (fun vs H Q E h => pure__law_ends vs H Q E h)
  exact pss_cons (ps_set (i := 4) sc__law_ends.nd rfl (Or.inl rfl) (pe_lst (pa_nil)))
    (pss_stop (pss_cons (ps_set (i := 5) sc__law_ends.nd rfl (Or.inl rfl) (pe_int))
    (pss_stop (pss_cons (ps_for ownD rfl (pi_rng (by rfl) T.n_range (pa_cons (pe_call (G__law_draw) (hr.mono (by decide)) T.g__law_draw T.k__law_draw passD (pa_cons (pv 0) (pa_cons (pv 1) (pa_cons (pe_op o_add (pv 3) (pe_int)) (pa_nil))))) (pa_nil))) (pg_name (i := 6) sc__law_ends.nd rfl (Or.inl rfl)) (pss_cons (ps_set (i := 7) sc__law_ends.nd rfl (Or.inl rfl) (pe_call (G__law_draw) (hr.mono (by decide)) T.g__law_draw T.k__law_draw passD (pa_cons (pv 0) (pa_cons (pv 1) (pa_cons (pe_int) (pa_nil))))))
    (pss_stop (pss_cons (ps_if (pt_cmp (o_eq hr.units) (pv 7) (pe_int) (nomark _)) (pss_one (ps_set (i := 5) sc__law_ends.nd rfl (Or.inl rfl) (pe_op o_add (pv 5) (pe_call (G__law_draw) (hr.mono (by decide)) T.g__law_draw T.k__law_draw passD (pa_cons (pv 0) (pa_cons (pv 1) (pa_cons (pe_int) (pa_nil)))))))) (pss_nil))
    (pss_stop (pss_cons (ps_if (pt_cmp (o_eq hr.units) (pv 7) (pe_int) (nomark _)) (pss_one (ps_set (i := 5) sc__law_ends.nd rfl (Or.inl rfl) (pe_op o_add (pv 5) (pe_call (G__law_wide) (hr.mono (by decide)) T.g__law_wide T.k__law_wide passD (pa_cons (pv 0) (pa_cons (pv 1) (pa_cons (pe_op o_add (pe_op o_fdiv (pv 2) (pe_int)) (pe_int)) (pa_nil)))))))) (pss_nil))
    (pss_stop (pss_cons (ps_if (pt_cmp (o_eq hr.units) (pv 7) (pe_int) (nomark _)) (pss_one (ps_set (i := 5) sc__law_ends.nd rfl (Or.inl rfl) (pe_op o_add (pv 5) (pe_call (G__law_wide) (hr.mono (by decide)) T.g__law_wide T.k__law_wide passD (pa_cons (pv 0) (pa_cons (pv 1) (pa_cons (pe_op o_add (pv 2) (pe_int)) (pa_nil)))))))) (pss_nil))
    (pss_stop (pss_cons (ps_if (pt_cmp o_lt (pv 5) (pv 2) (nomark _)) (pss_one (ps_expr (pe_ml PySem.F.slot_list_append PySem.F.type_list_append m_app (pv 4) (pa_cons (pv 5) (pa_nil))))) (pss_nil))
    (pss_stop (pss_one (ps_set (i := 5) sc__law_ends.nd rfl (Or.inl rfl) (pe_op o_add (pv 5) (pe_int)))))))))))))))
    (pss_stop (pss_one (ps_ret (pv 4))))))))
theorem ok__law_places (T : T0 P K mg) : FR P w K mg base 4 (He.fAd K ("_law_places", none)) (sp__law_places K) := by
  obtain ⟨fd, F⟩ := T.F__law_places
  have G__law_draw := ok__law_draw (P := P) (w := w) (base := base) T
  have G__law_ends := ok__law_ends (P := P) (w := w) (base := base) T
  refine mk_fn F sc__law_places (fun vs H Q E h => by
    revert h; intro h; (repeat (first | (obtain ⟨rfl, _⟩ := h; exact rfl) | obtain ⟨_, h⟩ := h))) (fun _ _ _ _ _ _ us hl => match us, hl with | [_, _, _, _, _], _ => rfl) (t := t__law_places K) (fun cdv A outer s H E hr => ?_) (fun vs H Q E h => pure__law_places vs H Q E h)
  exact pss_cons (ps_set (i := 5) sc__law_places.nd rfl (Or.inl rfl) (pe_lst (pa_nil)))
    (pss_stop (pss_cons (ps_for ownD rfl (pi_rng (by rfl) T.n_range (pa_cons (pe_op o_add (pe_int) (pe_call (G__law_draw) (hr.mono (by decide)) T.g__law_draw T.k__law_draw passD (pa_cons (pv 0) (pa_cons (pv 1) (pa_cons (pv 4) (pa_nil)))))) (pa_nil))) (pg_name (i := 6) sc__law_places.nd rfl (Or.inl rfl)) (pss_one (ps_if (PW.pt (pw_and (pt_cmp (o_eq hr.units) (pe_call (G__law_draw) (hr.mono (by decide)) T.g__law_draw T.k__law_draw passD (pa_cons (pv 0) (pa_cons (pv 1) (pa_cons (pe_int) (pa_nil))))) (pe_int) (nomark _)) (pw_and1 (pt_cmp o_gt (pv 6) (pe_int) (nomark _))))) (pss_one (ps_expr (pe_ml PySem.F.slot_list_append PySem.F.type_list_append m_app (pv 5) (pa_cons (pe_ct c_list T.n_list (by decide +kernel) (pa_cons (pe_ix ix_any (pv 5) (pe_op o_sub (pv 6) (pe_int)) (fun _ _ => rfl)) (pa_nil))) (pa_nil))))) (pss_one (ps_expr (pe_ml PySem.F.slot_list_append PySem.F.type_list_append m_app (pv 5) (pa_cons (pe_call (G__law_ends) (hr.mono (by decide)) T.g__law_ends T.k__law_ends passD (pa_cons (pv 0) (pa_cons (pv 1) (pa_cons (pv 2) (pa_cons (pv 3) (pa_nil)))))) (pa_nil))))))))
    (pss_stop (pss_one (ps_ret (pv 5))))))
theorem ok__law_in (T : T0 P K mg) : FR P w K mg base 1 (He.fAd K ("_law_in", none)) (sp__law_in K) := by
  obtain ⟨fd, F⟩ := T.F__law_in
  refine mk_fn F sc__law_in (fun vs H Q E h => by
    revert h; intro h; (repeat (first | (obtain ⟨rfl, _⟩ := h; exact rfl) | obtain ⟨_, h⟩ := h))) (fun _ _ _ _ _ _ us hl => match us, hl with | [_, _], _ => rfl) (t := t__law_in K) (fun cdv A outer s H E hr => ?_) (fun vs H Q E h => pure__law_in vs H Q E h)
  exact pss_cons (ps_set (i := 2) sc__law_in.nd rfl (Or.inl rfl) (pe_bl))
    (pss_stop (pss_cons (ps_for ownD rfl (pi_seq (pv 0)) (pg_name (i := 3) sc__law_in.nd rfl (Or.inl rfl)) (pss_one (ps_if (pt_cmp o_le (pv 3) (pv 1) (nomark _)) (pss_one (ps_set (i := 2) sc__law_in.nd rfl (Or.inl rfl) (pe_not (pv 2)))) (pss_nil))))
    (pss_stop (pss_one (ps_ret (pv 2))))))
theorem ok__law_rotated (T : T0 P K mg) : FR P w K mg base 2 (He.fAd K ("_law_rotated", none)) (sp__law_rotated K) := by
  obtain ⟨fd, F⟩ := T.F__law_rotated
  have G__law_in := ok__law_in (P := P) (w := w) (base := base) T
  refine mk_fn F sc__law_rotated (fun vs H Q E h => by
    revert h; intro h; (repeat (first | (obtain ⟨rfl, _⟩ := h; exact rfl) | obtain ⟨_, h⟩ := h))) (fun _ _ _ _ _ _ us hl => match us, hl with | [_, _, _], _ => rfl) (t := t__law_rotated K) (fun cdv A outer s H E hr => ?_) (fun vs H Q E h => pure__law_rotated vs H Q E h)
  exact pss_cons (ps_set (i := 3) sc__law_rotated.nd rfl (Or.inl rfl) (pe_lst (pa_nil)))
    (pss_stop (pss_cons (ps_set (i := 4) sc__law_rotated.nd rfl (Or.inl rfl) (pe_bl))
    (pss_stop (pss_cons (ps_if (pt_cmp o_gt (pv 1) (pe_int) (nomark _)) (pss_one (ps_for ownD rfl (pi_seq (pe_cb c_sorted T.n_sorted (by decide +kernel) (pa_cons (pe_op o_add (pe_lst (pa_cons (pe_int) (pa_cons (pe_op o_mod (pe_ct c_int T.n_int (by decide +kernel) (pa_cons (pv 2) (pa_nil))) (pv 1)) (pa_nil)))) (pe_lc (own := [("_law_end", 7)]) rfl sc__law_rotated.nd (pi_seq (pv 0)) (blkOk_by (own := [("_law_end", 7)]) (N := ["_law_ends_here", "_law_size_here", "_law_shift", "_law_rotated_here", "_law_bit", "_law_row", "_law_now", "_law_end"]) (sc := defScope s__law_rotated) (by decide +kernel)) (fun _ _ _ _ _ => pg_name (i := 7) sc__law_rotated.nd rfl (Or.inl rfl)) (fun _ _ _ _ _ => pts_nil) (fun _ _ _ _ _ => pe_op o_mod (pe_ct c_int T.n_int (by decide +kernel) (pa_cons (pe_op o_add (pv 7) (pv 2)) (pa_nil))) (pv 1)))) (pa_nil)))) (pg_name (i := 5) sc__law_rotated.nd rfl (Or.inl rfl)) (pss_cons (ps_set (i := 6) sc__law_rotated.nd rfl (Or.inl rfl) (pe_call (G__law_in) (hr.mono (by decide)) T.g__law_in T.k__law_in passD (pa_cons (pv 0) (pa_cons (pe_op o_mod (pe_ct c_int T.n_int (by decide +kernel) (pa_cons (pe_op o_sub (pv 5) (pv 2)) (pa_nil))) (pv 1)) (pa_nil)))))
    (pss_stop (pss_one (ps_if (pt_cmp (o_ne hr.units) (pv 6) (pv 4) (nomark _)) (pss_cons (ps_expr (pe_ml PySem.F.slot_list_append PySem.F.type_list_append m_app (pv 3) (pa_cons (pv 5) (pa_nil))))
    (pss_one (ps_set (i := 4) sc__law_rotated.nd rfl (Or.inl rfl) (pv 6)))) (pss_nil))))))) (pss_nil))
    (pss_stop (pss_one (ps_ret (pv 3))))))))
theorem ok__law_ones (T : T0 P K mg) : FR P w K mg base 1 (He.fAd K ("_law_ones", none)) (sp__law_ones K) := by
  obtain ⟨fd, F⟩ := T.F__law_ones
  refine mk_fn F sc__law_ones (fun vs H Q E h => by
    revert h; intro h; (repeat (first | (obtain ⟨rfl, _⟩ := h; exact rfl) | obtain ⟨_, h⟩ := h))) (fun _ _ _ _ _ _ us hl => match us, hl with | [_, _], _ => rfl) (t := t__law_ones K) (fun cdv A outer s H E hr => ?_) (fun vs H Q E h => pure__law_ones vs H Q E h)
  exact pss_cons (ps_set (i := 2) sc__law_ones.nd rfl (Or.inl rfl) (pe_int))
    (pss_stop (pss_cons (ps_for ownD rfl (pi_rng (by rfl) T.n_range (pa_cons (pe_cb c_len T.n_len (by decide +kernel) (pa_cons (pv 0) (pa_nil))) (pa_nil))) (pg_name (i := 3) sc__law_ones.nd rfl (Or.inl rfl)) (pss_one (ps_if (pt_cmp (o_eq hr.units) (pe_op o_mod (pe_ct c_int T.n_int (by decide +kernel) (pa_cons (pv 3) (pa_nil))) (pe_int)) (pe_int) (nomark _)) (pss_one (ps_set (i := 2) sc__law_ones.nd rfl (Or.inl rfl) (pe_op o_sub (pe_op o_add (pv 2) (pv 1)) (pe_ix ix_any (pv 0) (pv 3) (fun _ _ => rfl))))) (pss_one (ps_set (i := 2) sc__law_ones.nd rfl (Or.inl rfl) (pe_op o_add (pe_op o_sub (pv 2) (pv 1)) (pe_ix ix_any (pv 0) (pv 3) (fun _ _ => rfl))))))))
    (pss_stop (pss_one (ps_ret (pv 2))))))
theorem ok__law_rows_of (T : T0 P K mg) : FR P w K mg base 1 (He.fAd K ("_law_rows_of", none)) (sp__law_rows_of K) := by
  obtain ⟨fd, F⟩ := T.F__law_rows_of
  refine mk_fn F sc__law_rows_of (fun vs H Q E h => by
    revert h; intro h; (repeat (first | (obtain ⟨rfl, _⟩ := h; exact rfl) | obtain ⟨_, h⟩ := h))) (fun _ _ _ _ _ _ us hl => match us, hl with | [_, _], _ => rfl) (t := t__law_rows_of K) (fun cdv A outer s H E hr => ?_) (fun vs H Q E h => pure__law_rows_of vs H Q E h)
  exact pss_cons (ps_set (i := 2) sc__law_rows_of.nd rfl (Or.inl rfl) (pe_lst (pa_nil)))
    (pss_stop (pss_cons (ps_if (pt_cmp o_gt (pv 0) (pe_int) (nomark _)) (pss_one (ps_set (i := 2) sc__law_rows_of.nd rfl (Or.inl rfl) (pe_lst (pa_cons (pe_int) (pa_nil))))) (pss_nil))
    (pss_stop (pss_cons (ps_for ownD rfl (pi_seq (pv 1)) (pg_name (i := 3) sc__law_rows_of.nd rfl (Or.inl rfl)) (pss_one (ps_for ownD rfl (pi_seq (pv 3)) (pg_name (i := 4) sc__law_rows_of.nd rfl (Or.inl rfl)) (pss_one (ps_if (pt_cmp o_nin (pv 4) (pv 2) (by rfl)) (pss_one (ps_expr (pe_ml PySem.F.slot_list_append PySem.F.type_list_append m_app (pv 2) (pa_cons (pv 4) (pa_nil))))) (pss_nil))))))
    (pss_stop (pss_one (ps_ret (pv 2))))))))
theorem ok__law_number_at (T : T0 P K mg) : FR P w K mg base 2 (He.fAd K ("_law_number_at", none)) (sp__law_number_at K) := by
  obtain ⟨fd, F⟩ := T.F__law_number_at
  have G__law_in := ok__law_in (P := P) (w := w) (base := base) T
  refine mk_fn F sc__law_number_at (fun vs H Q E h => by
    revert h; intro h; (repeat (first | (obtain ⟨rfl, _⟩ := h; exact rfl) | obtain ⟨_, h⟩ := h))) (fun _ _ _ _ _ _ us hl => match us, hl with | [_, _], _ => rfl) (t := t__law_number_at K) (fun cdv A outer s H E hr => ?_) (fun vs H Q E h => pure__law_number_at vs H Q E h)
  exact pss_cons (ps_set (i := 2) sc__law_number_at.nd rfl (Or.inl rfl) (pe_int))
    (pss_stop (pss_cons (ps_for ownD rfl (pi_rng (by rfl) T.n_range (pa_cons (pe_cb c_len T.n_len (by decide +kernel) (pa_cons (pv 0) (pa_nil))) (pa_nil))) (pg_name (i := 3) sc__law_number_at.nd rfl (Or.inl rfl)) (pss_one (ps_if (pt_of (pe_call (G__law_in) (hr.mono (by decide)) T.g__law_in T.k__law_in passD (pa_cons (pe_ix ix_any (pv 0) (pv 3) (fun _ _ => rfl)) (pa_cons (pv 1) (pa_nil))))) (pss_one (ps_if (pt_cmp (o_eq hr.units) (pv 3) (pe_op o_sub (pe_cb c_len T.n_len (by decide +kernel) (pa_cons (pv 0) (pa_nil))) (pe_int)) (nomark _)) (pss_one (ps_set (i := 2) sc__law_number_at.nd rfl (Or.inl rfl) (pe_op o_sub (pv 2) (pe_op o_shl (pe_int) (pv 3))))) (pss_one (ps_set (i := 2) sc__law_number_at.nd rfl (Or.inl rfl) (pe_op o_add (pv 2) (pe_op o_shl (pe_int) (pv 3))))))) (pss_nil))))
    (pss_stop (pss_one (ps_ret (pv 2))))))
theorem ok__law_numbers (T : T0 P K mg) : FR P w K mg base 3 (He.fAd K ("_law_numbers", none)) (sp__law_numbers K) := by
  obtain ⟨fd, F⟩ := T.F__law_numbers
  have G__law_number_at := ok__law_number_at (P := P) (w := w) (base := base) T
  have G__law_rows_of := ok__law_rows_of (P := P) (w := w) (base := base) T
  refine mk_fn F sc__law_numbers (fun vs H Q E h => by
    revert h; intro h; (repeat (first | (obtain ⟨rfl, _⟩ := h; exact rfl) | obtain ⟨_, h⟩ := h))) (fun _ _ _ _ _ _ us hl => match us, hl with | [_, _], _ => rfl) (t := t__law_numbers K) (fun cdv A outer s H E hr => ?_) (fun vs H Q E h => pure__law_numbers vs H Q E h)
  exact pss_cons (ps_set (i := 2) sc__law_numbers.nd rfl (Or.inr rfl) (pe_op o_add (pe_cb c_sorted T.n_sorted (by decide +kernel) (pa_cons (pe_call (G__law_rows_of) (hr.mono (by decide)) T.g__law_rows_of T.k__law_rows_of passD (pa_cons (pv 1) (pa_cons (pv 0) (pa_nil)))) (pa_nil))) (pe_lst (pa_cons (pv 1) (pa_nil)))))
    (pss_stop (pss_one (ps_ret (pe_lc (own := [("_law_k", 3)]) rfl sc__law_numbers.nd (pi_rng (by rfl) T.n_range (pa_cons (pe_op o_sub (pe_cb c_len T.n_len (by decide +kernel) (pa_cons (pv 2) (pa_nil))) (pe_int)) (pa_nil))) (blkOk_by (own := [("_law_k", 3)]) (N := ["_law_lists", "_law_size_here", "_law_starts", "_law_k"]) (sc := defScope s__law_numbers) (by decide +kernel)) (fun _ _ _ _ _ => pg_name (i := 3) sc__law_numbers.nd rfl (Or.inl rfl)) (fun _ _ _ _ _ => pts_nil) (fun _ _ _ _ _ => pe_tup (pa_cons (pe_op o_sub (pe_ix ix_any (pv 2) (pe_op o_add (pv 3) (pe_int)) (fun _ _ => rfl)) (pe_ix ix_any (pv 2) (pv 3) (fun _ _ => rfl))) (pa_cons (pe_call (G__law_number_at) (hr.mono (by decide)) T.g__law_number_at T.k__law_number_at passL0 (pa_cons (pv 0) (pa_cons (pe_ix ix_any (pv 2) (pv 3) (fun _ _ => rfl)) (pa_nil)))) (pa_nil))))))))
theorem ok_Summarydd_initdd (T : T0 P K mg) : FR P w K mg base 1 (He.fAd K ("Summary", some "__init__")) (sp_Summarydd_initdd K) := by
  obtain ⟨fd, F⟩ := T.F_Summarydd_initdd
  refine mk_fn F sc_Summarydd_initdd (fun vs H Q E h => by
    revert h; intro h; (repeat (first | (obtain ⟨rfl, _⟩ := h; exact rfl) | obtain ⟨_, h⟩ := h))) (fun _ _ _ _ _ _ us hl => match us, hl with | [_, _, _], _ => rfl) (t := t_Summarydd_initdd K) (fun cdv A outer s H E hr => ?_) (fun vs H Q E h => pure_Summarydd_initdd vs H Q E h)
  exact pss_cons (ps_if (PW.pt (pw_or (pt_cmp o_lt (pv 1) (pe_int) (nomark _)) (pw_or1 (pt_cmp (o_eq hr.units) (pe_cb c_len T.n_len (by decide +kernel) (pa_cons (pv 2) (pa_nil))) (pe_int) (nomark _))))) (pss_one (ps_giv T.X_BadSummary (ps_rs takesD T.R_BadSummary T.g_BadSummary))) (pss_nil))
    (pss_stop (pss_cons (ps_for ownD rfl (pi_seq (pv 2)) (pg_name (i := 3) sc_Summarydd_initdd.nd rfl (Or.inl rfl)) (pss_one (ps_if (pt_not (pt_chain o_le o_le (pe_int) (pv 3) (pv 1))) (pss_one (ps_giv T.X_BadSummary (ps_rs takesD T.R_BadSummary T.g_BadSummary))) (pss_nil))))
    (pss_stop (pss_cons (ps_sto (pv 1) (pv 0))
    (pss_stop (pss_cons (ps_sto (pe_ct c_tuple T.n_tuple (by decide +kernel) (pa_cons (pv 2) (pa_nil))) (pv 0))
    (pss_stop (pss_one (ps_sto (pe_op o_shl (pe_int) (pe_op o_sub (pe_cb c_len T.n_len (by decide +kernel) (pa_cons (pe_at (pv 0)) (pa_nil))) (pe_int))) (pv 0))))))))))
theorem ok_Summary_outside (T : T0 P K mg) : FR P w K mg base 1 (He.fAd K ("Summary", some "outside")) (sp_Summary_outside K) := by
  obtain ⟨fd, F⟩ := T.F_Summary_outside
  refine mk_fn F sc_Summary_outside (fun vs H Q E h => by
    revert h; intro h; (repeat (first | (obtain ⟨rfl, _⟩ := h; exact rfl) | obtain ⟨_, h⟩ := h))) (fun _ _ _ _ _ _ us hl => match us, hl with | [_, _, _], _ => rfl) (t := t_Summary_outside K) (fun cdv A outer s H E hr => ?_) (fun vs H Q E h => pure_Summary_outside vs H Q E h)
  exact pss_one (ps_ret (pe_or (pe_cmp o_ge (pv 1) (pe_at (pv 0)) (nomark _)) (pe_one (pe_and (pv 2) (pe_one (pe_cmp o_lt (pv 1) (pe_un u_neg (pe_at (pv 0))) (nomark _)))))))
theorem ok_Summary_steps (T : T0 P K mg) : FR P w K mg base 1 (He.fAd K ("Summary", some "steps")) (sp_Summary_steps K) := by
  obtain ⟨fd, F⟩ := T.F_Summary_steps
  refine mk_fn F sc_Summary_steps (fun vs H Q E h => by
    revert h; intro h; (repeat (first | (obtain ⟨rfl, _⟩ := h; exact rfl) | obtain ⟨_, h⟩ := h))) (fun _ _ _ _ _ _ us hl => match us, hl with | [_, _, _], _ => rfl) (t := t_Summary_steps K) (fun cdv A outer s H E hr => ?_) (fun vs H Q E h => pure_Summary_steps vs H Q E h)
  exact pss_cons (ps_set (i := 3) sc_Summary_steps.nd rfl (Or.inl rfl) (pe_op o_add (pe_cb (c_max2 rfl) T.n_max (by decide +kernel) (pa_cons (pv 1) (pa_cons (pe_un u_neg (pe_at (pv 0))) (pa_nil)))) (pe_at (pv 0))))
    (pss_stop (pss_cons (ps_set (i := 4) sc_Summary_steps.nd rfl (Or.inl rfl) (pe_lst (pa_nil)))
    (pss_stop (pss_cons (ps_for ownD rfl (pi_en T.n_enumerate (pe_at (pv 0))) (pg_tup rfl (pgs_cons (pg_name (i := 5) sc_Summary_steps.nd rfl (Or.inl rfl)) (pgs_cons (pg_name (i := 6) sc_Summary_steps.nd rfl (Or.inl rfl)) (pgs_nil)))) (pss_cons (ps_set (i := 7) sc_Summary_steps.nd rfl (Or.inl rfl) (pe_op o_and (pe_op o_shr (pv 3) (pv 5)) (pe_int)))
    (pss_stop (pss_cons (ps_set (i := 8) sc_Summary_steps.nd rfl (Or.inl rfl) (pe_cmp (o_eq hr.units) (pv 5) (pe_op o_sub (pe_cb c_len T.n_len (by decide +kernel) (pa_cons (pe_at (pv 0)) (pa_nil))) (pe_int)) (nomark _)))
    (pss_stop (pss_cons (ps_set (i := 9) sc_Summary_steps.nd rfl (Or.inl rfl) (pe_cmp (o_eq hr.units) (pe_or (pe_cmp (o_eq hr.units) (pv 7) (pe_int) (nomark _)) (pe_one (pe_not (pv 2)))) (pv 8) (nomark _)))
    (pss_stop (pss_cons (ps_set (i := 10) sc_Summary_steps.nd rfl (Or.inl rfl) (pv 6))
    (pss_stop (pss_cons (ps_if (pt_of (pv 9)) (pss_one (ps_set (i := 10) sc_Summary_steps.nd rfl (Or.inl rfl) (pe_op o_sub (pe_at (pv 0)) (pv 6)))) (pss_nil))
    (pss_stop (pss_one (ps_expr (pe_ml PySem.F.slot_list_append PySem.F.type_list_append m_app (pv 4) (pa_cons (pe_tup (pa_cons (pe_or (pe_cmp (o_eq hr.units) (pv 7) (pe_int) (nomark _)) (pe_one (pv 2))) (pa_cons (pv 9) (pa_cons (pv 10) (pa_nil))))) (pa_nil))))))))))))))))
    (pss_stop (pss_one (ps_ret (pv 4))))))))
theorem ok_Summary_ranges (T : T0 P K mg) : FR P w K mg base 1 (He.fAd K ("Summary", some "ranges")) (sp_Summary_ranges K) := by
  obtain ⟨fd, F⟩ := T.F_Summary_ranges
  refine mk_fn F sc_Summary_ranges (fun vs H Q E h => by
    revert h; intro h; (repeat (first | (obtain ⟨rfl, _⟩ := h; exact rfl) | obtain ⟨_, h⟩ := h))) (fun _ _ _ _ _ _ us hl => match us, hl with | [_, _], _ => rfl) (t := t_Summary_ranges K) (fun cdv A outer s H E hr => ?_) (fun vs H Q E h => pure_Summary_ranges vs H Q E h)
  exact pss_cons (ps_asg2 (pe_at (pv 0)) (pg_name (i := 2) sc_Summary_ranges.nd rfl (Or.inl rfl)) (pg_name (i := 3) sc_Summary_ranges.nd rfl (Or.inl rfl)))
    (pss_stop (pss_cons (ps_set (i := 4) sc_Summary_ranges.nd rfl (Or.inl rfl) (pe_lst (pa_cons (pe_tup (pa_cons (pv 2) (pa_cons (pv 3) (pa_nil)))) (pa_nil))))
    (pss_stop (pss_cons (ps_for ownD rfl (pi_seq (pv 1)) (pg_tup rfl (pgs_cons (pg_name (i := 5) sc_Summary_ranges.nd rfl (Or.inl rfl)) (pgs_cons (pg_name (i := 6) sc_Summary_ranges.nd rfl (Or.inl rfl)) (pgs_cons (pg_name (i := 7) sc_Summary_ranges.nd rfl (Or.inl rfl)) (pgs_nil))))) (pss_cons (ps_if (pt_of (pv 5)) (pss_cons (ps_set (i := 2) sc_Summary_ranges.nd rfl (Or.inl rfl) (pe_cb (c_max2 rfl) T.n_max (by decide +kernel) (pa_cons (pe_int) (pa_cons (pe_op o_sub (pe_op o_add (pv 7) (pv 2)) (pe_at (pv 0))) (pa_nil)))))
    (pss_one (ps_set (i := 3) sc_Summary_ranges.nd rfl (Or.inl rfl) (pe_cb (c_min2 rfl) T.n_min (by decide +kernel) (pa_cons (pv 7) (pa_cons (pv 3) (pa_nil))))))) (pss_cons (ps_set (i := 2) sc_Summary_ranges.nd rfl (Or.inl rfl) (pe_cb (c_max2 rfl) T.n_max (by decide +kernel) (pa_cons (pv 7) (pa_cons (pv 2) (pa_nil)))))
    (pss_one (ps_set (i := 3) sc_Summary_ranges.nd rfl (Or.inl rfl) (pe_cb (c_min2 rfl) T.n_min (by decide +kernel) (pa_cons (pe_at (pv 0)) (pa_cons (pe_op o_add (pv 7) (pv 3)) (pa_nil))))))))
    (pss_stop (pss_one (ps_expr (pe_ml PySem.F.slot_list_append PySem.F.type_list_append m_app (pv 4) (pa_cons (pe_tup (pa_cons (pv 2) (pa_cons (pv 3) (pa_nil)))) (pa_nil))))))))
    (pss_stop (pss_one (ps_ret (pv 4))))))))
theorem okd_Summary_bounds (T : T0 P K mg) {fd : FuncData} (F : FunD K "bounds" "Summary.bounds" (defArgs s_Summary_bounds) (defBody s_Summary_bounds) (defScope s_Summary_bounds) [] [("equal", V.bl false)] (He.fAd K ("Summary", some "bounds")) fd) {ex : List V} (hb : ∃ ds, Vals ex ds ∧ Binds K fd ["self", "number", "equal"] ds) : FR P w K mg base 2 (He.fAd K ("Summary", some "bounds")) (spD (sp_Summary_bounds K) ex) := by
  have G_Summary_outside := ok_Summary_outside (P := P) (w := w) (base := base) T
  have G_Summary_ranges := ok_Summary_ranges (P := P) (w := w) (base := base) T
  have G_Summary_steps := ok_Summary_steps (P := P) (w := w) (base := base) T
  refine mk_fnD F sc_Summary_bounds (fun vs H Q E h => by
    revert h; intro h; (repeat (first | (obtain ⟨rfl, _⟩ := h; exact rfl) | obtain ⟨_, h⟩ := h))) hb (t := t_Summary_bounds K) (fun cdv A outer s H E hr => ?_) (fun vs H Q E h => pure_Summary_bounds vs H Q E h)
  exact pss_cons (ps_if (pt_of (pe_methD T.D_Summary.cl T.M_Summary_outside G_Summary_outside (hr.mono (by decide)) passD (pv 0) (pa_cons (pv 1) (pa_cons (pv 2) (pa_nil))))) (pss_one (ps_ret (pe_tup (pa_cons (pe_int) (pa_cons (pe_int) (pa_nil)))))) (pss_nil))
    (pss_stop (pss_one (ps_ret (pe_ix ix_any (pe_methD T.D_Summary.cl T.M_Summary_ranges G_Summary_ranges (hr.mono (by decide)) passD (pv 0) (pa_cons (pe_methD T.D_Summary.cl T.M_Summary_steps G_Summary_steps (hr.mono (by decide)) passD (pv 0) (pa_cons (pv 1) (pa_cons (pv 2) (pa_nil)))) (pa_nil))) (pe_un u_neg (pe_int)) (fun _ _ => rfl)))))
theorem ok_K_Summary_bounds_2_equal (T : T0 P K mg) : FK P w K mg base 2 (He.fAd K ("Summary", some "bounds")) 2 ["equal"] (sp_Summary_bounds K) (fun vs zs => vs ++ (zs)) := by
  obtain ⟨fd, F⟩ := T.F_Summary_bounds
  have G_Summary_outside := ok_Summary_outside (P := P) (w := w) (base := base) T
  have G_Summary_ranges := ok_Summary_ranges (P := P) (w := w) (base := base) T
  have G_Summary_steps := ok_Summary_steps (P := P) (w := w) (base := base) T
  obtain ⟨mv, hb⟩ := FunD.kbinds0 (ps := ["self", "number", "equal"]) F 2 ["equal"] [] (fun us mv ws => us ++ (ws)) (List.cons_ne_nil _ _) (by decide) (fun r1 r2 r3 => r1.append (r3)) (fun D doc pm an cdv ct us mv ws l1 l2 l3 => match us, mv, ws, l1, l2, l3 with | [_, _], [], [_], _, _, _ => rfl)
  refine mk_fnK F sc_Summary_bounds (fun vs H Q E h => by
    revert h; intro h; (repeat (first | (obtain ⟨rfl, _⟩ := h; exact rfl) | obtain ⟨_, h⟩ := h))) ⟨_, hb⟩ (t := t_Summary_bounds K) (fun cdv A outer s H E hr => ?_) (fun vs H Q E h => pure_Summary_bounds vs H Q E h)
  exact pss_cons (ps_if (pt_of (pe_methD T.D_Summary.cl T.M_Summary_outside G_Summary_outside (hr.mono (by decide)) passD (pv 0) (pa_cons (pv 1) (pa_cons (pv 2) (pa_nil))))) (pss_one (ps_ret (pe_tup (pa_cons (pe_int) (pa_cons (pe_int) (pa_nil)))))) (pss_nil))
    (pss_stop (pss_one (ps_ret (pe_ix ix_any (pe_methD T.D_Summary.cl T.M_Summary_ranges G_Summary_ranges (hr.mono (by decide)) passD (pv 0) (pa_cons (pe_methD T.D_Summary.cl T.M_Summary_steps G_Summary_steps (hr.mono (by decide)) passD (pv 0) (pa_cons (pv 1) (pa_cons (pv 2) (pa_nil)))) (pa_nil))) (pe_un u_neg (pe_int)) (fun _ _ => rfl)))))
theorem ok_Summary_bounds_2 (T : T0 P K mg) : FR P w K mg base 2 (He.fAd K ("Summary", some "bounds")) (spD (sp_Summary_bounds K) [V.bl false]) := by
  obtain ⟨fd, F⟩ := T.F_Summary_bounds
  have hb := FunD.binds0 (ps := ["self", "number", "equal"]) F 2 (List.cons_ne_nil _ _) rfl fun D doc pm an cdv ct us ks l1 l2 => match us, ks, l1, l2 with | [_, _], [_], _, _ => ⟨_, _, _, _, _, _, rfl, rfl, rfl⟩
  exact  (okd_Summary_bounds (P := P) (w := w) (base := base) T F hb)
theorem ok__law_passes (T : T0 P K mg) : FR P w K mg base 1 (He.fAd K ("_law_passes", none)) (sp__law_passes K) := by
  obtain ⟨fd, F⟩ := T.F__law_passes
  refine mk_fn F sc__law_passes (fun vs H Q E h => by
    revert h; intro h; (repeat (first | (obtain ⟨rfl, _⟩ := h; exact rfl) | obtain ⟨_, h⟩ := h))) (fun _ _ _ _ _ _ us hl => match us, hl with | [_, _, _], _ => rfl) (t := t__law_passes K) (fun cdv A outer s H E hr => ?_) (fun vs H Q E h => pure__law_passes vs H Q E h)
  exact pss_cons (ps_set (i := 3) sc__law_passes.nd rfl (Or.inl rfl) (pe_int))
    (pss_stop (pss_cons (ps_for ownD rfl (pi_seq (pv 0)) (pg_name (i := 4) sc__law_passes.nd rfl (Or.inl rfl)) (pss_one (ps_if (PW.pt (pw_or (pt_cmp (o_eq hr.units) (pe_ix ix_any (pv 4) (pe_int) (fun _ _ => rfl)) (pv 1) (nomark _)) (pw_or1 (PW.pt (pw_and (pt_cmp o_gt (pe_ix ix_any (pv 4) (pe_int) (fun _ _ => rfl)) (pv 1) (nomark _)) (pw_and1 (pt_not (pt_of (pv 2))))))))) (pss_one (ps_set (i := 3) sc__law_passes.nd rfl (Or.inl rfl) (pe_op o_add (pv 3) (pe_ix ix_any (pv 4) (pe_int) (fun _ _ => rfl))))) (pss_nil))))
    (pss_stop (pss_one (ps_ret (pv 3))))))
theorem ok_weight_of (T : T0 P K mg) : FR P w K mg base 1 (He.fAd K ("weight_of", none)) (sp_weight_of K) := by
  obtain ⟨fd, F⟩ := T.F_weight_of
  refine mk_fn F sc_weight_of (fun vs H Q E h => by
    revert h; intro h; (repeat (first | (obtain ⟨rfl, _⟩ := h; exact rfl) | obtain ⟨_, h⟩ := h))) (fun _ _ _ _ _ _ us hl => match us, hl with | [_, _], _ => rfl) (t := t_weight_of K) (fun cdv A outer s H E hr => ?_) (fun vs H Q E h => pure_weight_of vs H Q E h)
  exact pss_cons (ps_if (pt_cmp (o_eq hr.units) (pv 0) (pe_op o_sub (pv 1) (pe_int)) (nomark _)) (pss_one (ps_ret (pe_un u_neg (pe_op o_shl (pe_int) (pv 0))))) (pss_nil))
    (pss_stop (pss_one (ps_ret (pe_op o_shl (pe_int) (pv 0)))))
theorem ok_Summary_total (T : T0 P K mg) : FR P w K mg base 2 (uA K "Summary" "total") (sp_Summary_total K) := by
  obtain ⟨fd, F⟩ := T.F_Summary_total
  have G_weight_of := ok_weight_of (P := P) (w := w) (base := base) T
  refine mk_fn F sc_Summary_total (fun vs H Q E h => by
    revert h; intro h; (repeat (first | (obtain ⟨rfl, _⟩ := h; exact rfl) | obtain ⟨_, h⟩ := h))) (fun _ _ _ _ _ _ us hl => match us, hl with | [_], _ => rfl) (t := t_Summary_total K) (fun cdv A outer s H E hr => ?_) (fun vs H Q E h => pure_Summary_total vs H Q E h)
  exact pss_cons (ps_set (i := 1) sc_Summary_total.nd rfl (Or.inl rfl) (pe_int))
    (pss_stop (pss_cons (ps_for ownD rfl (pi_en T.n_enumerate (pe_at (pv 0))) (pg_tup rfl (pgs_cons (pg_name (i := 2) sc_Summary_total.nd rfl (Or.inl rfl)) (pgs_cons (pg_name (i := 3) sc_Summary_total.nd rfl (Or.inl rfl)) (pgs_nil)))) (pss_one (ps_set (i := 1) sc_Summary_total.nd rfl (Or.inl rfl) (pe_op o_add (pv 1) (pe_op o_mulA (pe_call (G_weight_of) (hr.mono (by decide)) T.g_weight_of T.k_weight_of passD (pa_cons (pv 2) (pa_cons (pe_cb c_len T.n_len (by decide +kernel) (pa_cons (pe_at (pv 0)) (pa_nil))) (pa_nil)))) (pv 3))))))
    (pss_stop (pss_one (ps_ret (pv 1))))))
theorem ok_Summary_reach (T : T0 P K mg) : FR P w K mg base 3 (He.fAd K ("Summary", some "reach")) (sp_Summary_reach K) := by
  obtain ⟨fd, F⟩ := T.F_Summary_reach
  have G_Summary_bounds_2 := ok_Summary_bounds_2 (P := P) (w := w) (base := base) T
  refine mk_fn F sc_Summary_reach (fun vs H Q E h => by
    revert h; intro h; (repeat (first | (obtain ⟨rfl, _⟩ := h; exact rfl) | obtain ⟨_, h⟩ := h))) (fun _ _ _ _ _ _ us hl => match us, hl with | [_, _, _], _ => rfl) (t := t_Summary_reach K) (fun cdv A outer s H E hr => ?_) (fun vs H Q E h => pure_Summary_reach vs H Q E h)
  exact pss_cons (ps_set (i := 3) sc_Summary_reach.nd rfl (Or.inl rfl) (pe_un u_neg (pe_at (pv 0))))
    (pss_stop (pss_cons (ps_set (i := 4) sc_Summary_reach.nd rfl (Or.inl rfl) (pe_at (pv 0)))
    (pss_stop (pss_cons (ps_while ownD (pt_cmp o_gt (pv 4) (pe_int) (nomark _)) (pss_cons (ps_if (pt_cmp o_ge (pe_ix ix_any (pe_methD T.D_Summary.cl T.M_Summary_bounds G_Summary_bounds_2 (hr.mono (by decide)) passD (pv 0) (pa_cons (pe_op o_add (pv 3) (pv 4)) (pa_nil))) (pv 2) (fun _ _ => rfl)) (pe_op o_sub (pe_at (pv 0)) (pv 1)) (nomark _)) (pss_one (ps_set (i := 3) sc_Summary_reach.nd rfl (Or.inl rfl) (pe_op o_add (pv 3) (pv 4)))) (pss_nil))
    (pss_stop (pss_one (ps_set (i := 4) sc_Summary_reach.nd rfl (Or.inl rfl) (pe_op o_fdiv (pv 4) (pe_int)))))))
    (pss_stop (pss_one (ps_ret (pv 3))))))))
theorem ok_Summary_kth_bounds (T : T0 P K mg) : FR P w K mg base 4 (He.fAd K ("Summary", some "kth_bounds")) (sp_Summary_kth_bounds K) := by
  obtain ⟨fd, F⟩ := T.F_Summary_kth_bounds
  have G_Summary_reach := ok_Summary_reach (P := P) (w := w) (base := base) T
  refine mk_fn F sc_Summary_kth_bounds (fun vs H Q E h => by
    revert h; intro h; (repeat (first | (obtain ⟨rfl, _⟩ := h; exact rfl) | obtain ⟨_, h⟩ := h))) (fun _ _ _ _ _ _ us hl => match us, hl with | [_, _], _ => rfl) (t := t_Summary_kth_bounds K) (fun cdv A outer s H E hr => ?_) (fun vs H Q E h => pure_Summary_kth_bounds vs H Q E h)
  exact pss_cons (ps_if (pt_not (pt_chain o_le o_lt (pe_int) (pv 1) (pe_at (pv 0)))) (pss_one (ps_giv T.X_NoSuchRank (ps_rsI takesD T.Xi_NoSuchRank T.n_super T.g_NoSuchRank (hr.mono (by decide)) (pv 1) (fun _ _ _ _ _ _ _ us hl => match us, hl with | [_, _], _ => rfl) rfl ⟨_, rfl, rfl⟩ rfl rfl rfl (by decide +kernel) rfl rfl rfl rfl (by decide) (by decide) (fun _ => rfl) (fun _ => rfl) (fun _ => rfl)))) (pss_nil))
    (pss_stop (pss_one (ps_ret (pe_tup (pa_cons (pe_methD T.D_Summary.cl T.M_Summary_reach G_Summary_reach (hr.mono (by decide)) passD (pv 0) (pa_cons (pv 1) (pa_cons (pe_int) (pa_nil)))) (pa_cons (pe_methD T.D_Summary.cl T.M_Summary_reach G_Summary_reach (hr.mono (by decide)) passD (pv 0) (pa_cons (pv 1) (pa_cons (pe_int) (pa_nil)))) (pa_nil)))))))
theorem ok__law_at_index (T : T0 P K mg) : FR P w K mg base 1 (He.fAd K ("_law_at_index", none)) (sp__law_at_index K) := by
  obtain ⟨fd, F⟩ := T.F__law_at_index
  refine mk_fn F sc__law_at_index (fun vs H Q E h => by
    revert h; intro h; (repeat (first | (obtain ⟨rfl, _⟩ := h; exact rfl) | obtain ⟨_, h⟩ := h))) (fun _ _ _ _ _ _ us hl => match us, hl with | [_, _], _ => rfl) (t := t__law_at_index K) (fun cdv A outer s H E hr => ?_) (fun vs H Q E h => pure__law_at_index vs H Q E h)
  exact pss_cons (ps_set (i := 2) sc__law_at_index.nd rfl (Or.inl rfl) (pv 1))
    (pss_stop (pss_cons (ps_for ownD rfl (pi_seq (pe_cb (c_sortedT hr.units) T.n_sorted (by decide +kernel) (pa_cons (pe_lc (own := [("_law_part", 4)]) rfl sc__law_at_index.nd (pi_seq (pv 0)) (blkOk_by (own := [("_law_part", 4)]) (N := ["_law_stretches", "_law_k", "_law_left", "_law_stretch", "_law_part"]) (sc := defScope s__law_at_index) (by decide +kernel)) (fun _ _ _ _ _ => pg_name (i := 4) sc__law_at_index.nd rfl (Or.inl rfl)) (fun _ _ _ _ _ => pts_nil) (fun _ _ _ _ _ => pe_tup (pa_cons (pe_ix ix_any (pv 4) (pe_int) (fun _ _ => rfl)) (pa_cons (pe_ix ix_any (pv 4) (pe_int) (fun _ _ => rfl)) (pa_nil))))) (pa_nil)))) (pg_name (i := 3) sc__law_at_index.nd rfl (Or.inl rfl)) (pss_cons (ps_if (pt_cmp o_lt (pv 2) (pe_ix ix_any (pv 3) (pe_int) (fun _ _ => rfl)) (nomark _)) (pss_one (ps_ret (pe_ix ix_any (pv 3) (pe_int) (fun _ _ => rfl)))) (pss_nil))
    (pss_stop (pss_one (ps_set (i := 2) sc__law_at_index.nd rfl (Or.inl rfl) (pe_op o_sub (pv 2) (pe_ix ix_any (pv 3) (pe_int) (fun _ _ => rfl))))))))
    (pss_stop (pss_one (ps_ret (pe_non))))))
theorem ok_turned (T : T0 P K mg) : FR P w K mg base 1 (He.fAd K ("turned", none)) (sp_turned K) := by
  obtain ⟨fd, F⟩ := T.F_turned
  refine mk_fn F sc_turned (fun vs H Q E h => by
    revert h; intro h; (repeat (first | (obtain ⟨rfl, _⟩ := h; exact rfl) | obtain ⟨_, h⟩ := h))) (fun _ _ _ _ _ _ us hl => match us, hl with | [_, _], _ => rfl) (t := t_turned K) (fun cdv A outer s H E hr => ?_) (fun vs H Q E h => pure_turned vs H Q E h)
  exact pss_cons (ps_if (pt_cmp (o_eq hr.units) (pv 1) (pe_int) (nomark _)) (pss_one (ps_ret (pe_tup (pa_nil)))) (pss_nil))
    (pss_stop (pss_cons (ps_if (PW.pt (pw_and (pt_cmp o_gt (pe_cb c_len T.n_len (by decide +kernel) (pa_cons (pv 0) (pa_nil))) (pe_int) (nomark _)) (pw_and1 (pt_cmp (o_eq hr.units) (pe_ix ix_any (pv 0) (pe_int) (fun _ _ => rfl)) (pe_int) (nomark _))))) (pss_one (ps_ret (pe_ct c_tuple T.n_tuple (by decide +kernel) (pa_cons (pe_slice sl_any (pv 0) (po_some (pe_int)) (po_none)) (pa_nil))))) (pss_nil))
    (pss_stop (pss_one (ps_ret (pe_op o_add (pe_tup (pa_cons (pe_int) (pa_nil))) (pe_ct c_tuple T.n_tuple (by decide +kernel) (pa_cons (pv 0) (pa_nil)))))))))
theorem okd_Bitmapdd_initdd (T : T0 P K mg) {fd : FuncData} (F : FunD K "__init__" "Bitmap.__init__" (defArgs s_Bitmapdd_initdd) (defBody s_Bitmapdd_initdd) (defScope s_Bitmapdd_initdd) [V.ref (He.dflAt ("Bitmap", some "__init__") 0 K)] [] (He.fAd K ("Bitmap", some "__init__")) fd) {ex : List V} (hb : ∃ ds, Vals ex ds ∧ Binds K fd ["self", "size", "ends"] ds) : FR P w K mg base 1 (He.fAd K ("Bitmap", some "__init__")) (spD (sp_Bitmapdd_initdd K) ex) := by
  refine mk_fnD F sc_Bitmapdd_initdd (fun vs H Q E h => by
    revert h; intro h; (repeat (first | (obtain ⟨rfl, _⟩ := h; exact rfl) | obtain ⟨_, h⟩ := h))) hb (t := t_Bitmapdd_initdd K) (fun cdv A outer s H E hr => ?_) (fun vs H Q E h => pure_Bitmapdd_initdd vs H Q E h)
  exact pss_cons (ps_set (i := 3) sc_Bitmapdd_initdd.nd rfl (Or.inl rfl) (pe_un u_neg (pe_int)))
    (pss_stop (pss_cons (ps_for ownD rfl (pi_seq (pv 2)) (pg_name (i := 4) sc_Bitmapdd_initdd.nd rfl (Or.inl rfl)) (pss_cons (ps_if (pt_not (pt_chain o_lt o_lt (pv 3) (pv 4) (pv 1))) (pss_one (ps_giv T.X_BadBitmap (ps_rs takesD T.R_BadBitmap T.g_BadBitmap))) (pss_nil))
    (pss_stop (pss_one (ps_set (i := 3) sc_Bitmapdd_initdd.nd rfl (Or.inl rfl) (pv 4))))))
    (pss_stop (pss_cons (ps_if (pt_cmp o_lt (pv 1) (pe_int) (nomark _)) (pss_one (ps_giv T.X_BadBitmap (ps_rs takesD T.R_BadBitmap T.g_BadBitmap))) (pss_nil))
    (pss_stop (pss_cons (ps_sto (pv 1) (pv 0))
    (pss_stop (pss_one (ps_sto (pe_ct c_tuple T.n_tuple (by decide +kernel) (pa_cons (pv 2) (pa_nil))) (pv 0))))))))))
theorem ok_Bitmapdd_initdd (T : T0 P K mg) : FR P w K mg base 1 (He.fAd K ("Bitmap", some "__init__")) (sp_Bitmapdd_initdd K) := by
  obtain ⟨fd, F⟩ := T.F_Bitmapdd_initdd
  have hb := FunD.binds1 (ps := ["self", "size", "ends"]) F 3 1 (List.cons_ne_nil _ _) rfl fun T kV doc pm an cdv ct us its l1 l2 => match us, its, l1, l2 with | [_, _, _], [_], _, _ => ⟨_, rfl, rfl⟩
  exact spD_nil (okd_Bitmapdd_initdd (P := P) (w := w) (base := base) T F hb)
theorem ok_Bitmapdd_initdd_2 (T : T0 P K mg) : FR P w K mg base 1 (He.fAd K ("Bitmap", some "__init__")) (spD (sp_Bitmapdd_initdd K) [V.ref (He.dflAt ("Bitmap", some "__init__") 0 K)]) := by
  obtain ⟨fd, F⟩ := T.F_Bitmapdd_initdd
  have hb := FunD.binds1 (ps := ["self", "size", "ends"]) F 2 0 (List.cons_ne_nil _ _) rfl fun T kV doc pm an cdv ct us its l1 l2 => match us, its, l1, l2 with | [_, _], [_], _, _ => ⟨_, rfl, rfl⟩
  exact  (okd_Bitmapdd_initdd (P := P) (w := w) (base := base) T F hb)
theorem ok_Bitmap_full (T : T0 P K mg) : FR P w K mg base 3 (uA K "Bitmap" "full") (sp_Bitmap_full K) := by
  obtain ⟨fd, F⟩ := T.F_Bitmap_full
  have G_Bitmapdd_initdd := ok_Bitmapdd_initdd (P := P) (w := w) (base := base) T
  have G_turned := ok_turned (P := P) (w := w) (base := base) T
  refine mk_fn F sc_Bitmap_full (fun vs H Q E h => by
    revert h; intro h; (repeat (first | (obtain ⟨rfl, _⟩ := h; exact rfl) | obtain ⟨_, h⟩ := h))) (fun _ _ _ _ _ _ us hl => match us, hl with | [_], _ => rfl) (t := t_Bitmap_full K) (fun cdv A outer s H E hr => ?_) (fun vs H Q E h => pure_Bitmap_full vs H Q E h)
  exact pss_one (ps_ret (pe_giv T.C_Bitmap (pe_mk T.K_Bitmap G_Bitmapdd_initdd (hr.mono (by decide)) T.g_Bitmap passD (pa_cons (pv 0) (pa_cons (pe_call (G_turned) (hr.mono (by decide)) T.g_turned T.k_turned passD (pa_cons (pe_tup (pa_nil)) (pa_cons (pv 0) (pa_nil)))) (pa_nil))))))
theorem ok_Bitmap_rank (T : T0 P K mg) : FR P w K mg base 2 (He.fAd K ("Bitmap", some "rank")) (sp_Bitmap_rank K) := by
  obtain ⟨fd, F⟩ := T.F_Bitmap_rank
  refine mk_fn F sc_Bitmap_rank (fun vs H Q E h => by
    revert h; intro h; (repeat (first | (obtain ⟨rfl, _⟩ := h; exact rfl) | obtain ⟨_, h⟩ := h))) (fun _ _ _ _ _ _ us hl => match us, hl with | [_, _], _ => rfl) (t := t_Bitmap_rank K) (fun cdv A outer s H E hr => ?_) (fun vs H Q E h => pure_Bitmap_rank vs H Q E h)
  exact pss_cons (ps_if (pt_not (pt_chain o_le o_le (pe_int) (pv 1) (pe_at (pv 0)))) (pss_one (ps_giv T.X_NoSuchRow (ps_rsI takesD T.Xi_NoSuchRow T.n_super T.g_NoSuchRow (hr.mono (by decide)) (pv 1) (fun _ _ _ _ _ _ _ us hl => match us, hl with | [_, _], _ => rfl) rfl ⟨_, rfl, rfl⟩ rfl rfl rfl (by decide +kernel) rfl rfl rfl rfl (by decide) (by decide) (fun _ => rfl) (fun _ => rfl) (fun _ => rfl)))) (pss_nil))
    (pss_stop (pss_cons (ps_set (i := 2) sc_Bitmap_rank.nd rfl (Or.inl rfl) (pe_int))
    (pss_stop (pss_cons (ps_for ownD rfl (pi_en T.n_enumerate (pe_at (pv 0))) (pg_tup rfl (pgs_cons (pg_name (i := 3) sc_Bitmap_rank.nd rfl (Or.inl rfl)) (pgs_cons (pg_name (i := 4) sc_Bitmap_rank.nd rfl (Or.inl rfl)) (pgs_nil)))) (pss_one (ps_if (pt_cmp o_lt (pv 4) (pv 1) (nomark _)) (pss_one (ps_set (i := 2) sc_Bitmap_rank.nd rfl (Or.inl rfl) (pe_op o_add (pv 2) (pe_op o_mulA (pe_op o_sub (pv 1) (pv 4)) (pe_op o_sub (pe_int) (pe_op o_mulA (pe_int) (pe_op o_and (pv 3) (pe_int)))))))) (pss_nil))))
    (pss_stop (pss_one (ps_ret (pv 2))))))))
theorem ok_Bitmap_ones (T : T0 P K mg) : FR P w K mg base 3 (uA K "Bitmap" "ones") (sp_Bitmap_ones K) := by
  obtain ⟨fd, F⟩ := T.F_Bitmap_ones
  have G_Bitmap_rank := ok_Bitmap_rank (P := P) (w := w) (base := base) T
  refine mk_fn F sc_Bitmap_ones (fun vs H Q E h => by
    revert h; intro h; (repeat (first | (obtain ⟨rfl, _⟩ := h; exact rfl) | obtain ⟨_, h⟩ := h))) (fun _ _ _ _ _ _ us hl => match us, hl with | [_], _ => rfl) (t := t_Bitmap_ones K) (fun cdv A outer s H E hr => ?_) (fun vs H Q E h => pure_Bitmap_ones vs H Q E h)
  exact pss_one (ps_ret (pe_meth T.C_Bitmap.sc T.M_Bitmap_rank G_Bitmap_rank (hr.mono (by decide)) passD (pv 0) (pa_cons (pe_at (pv 0)) (pa_nil))))
theorem okF_Bitmap_runs (T : T0 P K mg) : GFF P w K mg base 1 (He.fAd K ("Bitmap", some "runs")) (spF_Bitmap_runs K) := by
  obtain ⟨fd, F⟩ := T.F_Bitmap_runs
  refine gff_of F sc_Bitmap_runs (by decide +kernel) (fun vs H Q E h => by
    revert h; intro h; (repeat (first | (obtain ⟨rfl, _⟩ := h; exact rfl) | obtain ⟨_, h⟩ := h))) (fun _ _ _ _ _ _ us hl => match us, hl with | [_], _ => rfl) (t := tF_Bitmap_runs K E0) (fun cdv A outer s H pn Z Kc hr al => ?_) (fun vs H Kc Q h => pureF_Bitmap_runs vs H Kc Q h)
  exact gssf_cons (gsf_ps al (fun b => ps_set (i := 1) sc_Bitmap_runs.nd rfl (Or.inl rfl) (pe_non)))
    (gssf_stop (gssf_cons (gsf_for al rfl (fun b => pi_seq (pe_at (pv 0))) (fun b => pg_name (i := 2) sc_Bitmap_runs.nd rfl (Or.inl rfl)) (gssf_one (gsf_if al (fun b => pt_cmp o_isN (pv 1) (pe_non) (nomark _)) (gssf_one (gsf_ps al (fun b => ps_set (i := 1) sc_Bitmap_runs.nd rfl (Or.inl rfl) (pv 2)))) (gssf_cons (gsf_yield al (fun b => pe_tup (pa_cons (pv 1) (pa_cons (pv 2) (pa_nil)))))
    (gssf_one (gsf_ps al (fun b => ps_set (i := 1) sc_Bitmap_runs.nd rfl (Or.inl rfl) (pe_non))))))))
    (gssf_stop (gssf_one (gsf_if al (fun b => pt_cmp o_notN (pv 1) (pe_non) (nomark _)) (gssf_one (gsf_yield al (fun b => pe_tup (pa_cons (pv 1) (pa_cons (pe_at (pv 0)) (pa_nil)))))) (gssf_nil))))))
theorem ok_Bitmap_nth (T : T0 P K mg) : FR P w K mg base 5 (He.fAd K ("Bitmap", some "nth")) (sp_Bitmap_nth K) := by
  obtain ⟨fd, F⟩ := T.F_Bitmap_nth
  have GF_Bitmap_runs := okF_Bitmap_runs (P := P) (w := w) (base := base) T
  have G_Bitmap_ones := ok_Bitmap_ones (P := P) (w := w) (base := base) T
  refine mk_fn F sc_Bitmap_nth (fun vs H Q E h => by
    revert h; intro h; (repeat (first | (obtain ⟨rfl, _⟩ := h; exact rfl) | obtain ⟨_, h⟩ := h))) (fun _ _ _ _ _ _ us hl => match us, hl with | [_, _], _ => rfl) (t := t_Bitmap_nth K) (fun cdv A outer s H E hr => ?_) (fun vs H Q E h => pure_Bitmap_nth vs H Q E h)
  exact pss_cons (ps_if (pt_not (pt_chain o_le o_lt (pe_int) (pv 1) (pe_prop T.C_Bitmap.sc T.P_Bitmap_ones G_Bitmap_ones (hr.mono (by decide)) (pv 0)))) (pss_one (ps_giv T.X_NoSuchRank (ps_rsI takesD T.Xi_NoSuchRank T.n_super T.g_NoSuchRank (hr.mono (by decide)) (pv 1) (fun _ _ _ _ _ _ _ us hl => match us, hl with | [_, _], _ => rfl) rfl ⟨_, rfl, rfl⟩ rfl rfl rfl (by decide +kernel) rfl rfl rfl rfl (by decide) (by decide) (fun _ => rfl) (fun _ => rfl) (fun _ => rfl)))) (pss_nil))
    (pss_stop (pss_cons (ps_set (i := 2) sc_Bitmap_nth.nd rfl (Or.inl rfl) (pv 1))
    (pss_stop (pss_cons (ps_set (i := 3) sc_Bitmap_nth.nd rfl (Or.inl rfl) (pe_int))
    (pss_stop (pss_cons (ps_forF ownD rfl (pgenF_meth0 T.C_Bitmap.sc T.M_Bitmap_runs GF_Bitmap_runs (hr.mono (by decide)) (pv 0)) (hr.mono (by decide)) (pgg_tup rfl (pgsg_cons (pgg_name (i := 4) sc_Bitmap_nth.nd rfl (Or.inl rfl)) (pgsg_cons (pgg_name (i := 5) sc_Bitmap_nth.nd rfl (Or.inl rfl)) (pgsg_nil)))) (pssg_cons (psg_if (ptg_chain og_le og_lt (peg_int) (pvg 2) (peg_op og_sub (pvg 5) (pvg 4))) (pssg_one (psg_set (i := 3) sc_Bitmap_nth.nd rfl (Or.inl rfl) (peg_op (og_add rfl) (pvg 4) (pvg 2)))) (pssg_nil))
    (pssg_stop (pssg_one (psg_set (i := 2) sc_Bitmap_nth.nd rfl (Or.inl rfl) (peg_op og_sub (pvg 2) (peg_op og_sub (pvg 5) (pvg 4))))))) (fun x => cells_no (by decide +kernel)))
    (pss_stop (pss_one (ps_ret (pv 3))))))))))
theorem ok_Bitmap_span (T : T0 P K mg) : FR P w K mg base 3 (uA K "Bitmap" "span") (sp_Bitmap_span K) := by
  obtain ⟨fd, F⟩ := T.F_Bitmap_span
  have G_Bitmapdd_initdd := ok_Bitmapdd_initdd (P := P) (w := w) (base := base) T
  have G_Bitmapdd_initdd_2 := ok_Bitmapdd_initdd_2 (P := P) (w := w) (base := base) T
  refine mk_fn F sc_Bitmap_span (fun vs H Q E h => by
    revert h; intro h; (repeat (first | (obtain ⟨rfl, _⟩ := h; exact rfl) | obtain ⟨_, h⟩ := h))) (fun _ _ _ _ _ _ us hl => match us, hl with | [_, _, _], _ => rfl) (t := t_Bitmap_span K) (fun cdv A outer s H E hr => ?_) (fun vs H Q E h => pure_Bitmap_span vs H Q E h)
  exact pss_cons (ps_if (pt_not (pt_chain3 o_le o_le o_le (pe_int) (pv 1) (pv 2) (pv 0))) (pss_one (ps_giv T.X_BadBitmap (ps_rs takesD T.R_BadBitmap T.g_BadBitmap))) (pss_nil))
    (pss_stop (pss_cons (ps_if (pt_cmp (o_eq hr.units) (pv 1) (pv 2) (nomark _)) (pss_one (ps_ret (pe_giv T.C_Bitmap (pe_giv T.E_Bitmapdd_initdd_0 (pe_mk T.K_Bitmap G_Bitmapdd_initdd_2 (hr.mono (by decide)) T.g_Bitmap passD (pa_cons (pv 0) (pa_nil))))))) (pss_nil))
    (pss_stop (pss_cons (ps_if (pt_cmp (o_eq hr.units) (pv 2) (pv 0) (nomark _)) (pss_one (ps_ret (pe_giv T.C_Bitmap (pe_mk T.K_Bitmap G_Bitmapdd_initdd (hr.mono (by decide)) T.g_Bitmap passD (pa_cons (pv 0) (pa_cons (pe_tup (pa_cons (pv 1) (pa_nil))) (pa_nil))))))) (pss_nil))
    (pss_stop (pss_one (ps_ret (pe_giv T.C_Bitmap (pe_mk T.K_Bitmap G_Bitmapdd_initdd (hr.mono (by decide)) T.g_Bitmap passD (pa_cons (pv 0) (pa_cons (pe_tup (pa_cons (pv 1) (pa_cons (pv 2) (pa_nil)))) (pa_nil))))))))))))
theorem ok_next_end (T : T0 P K mg) : FR P w K mg base 1 (He.fAd K ("next_end", none)) (sp_next_end K) := by
  obtain ⟨fd, F⟩ := T.F_next_end
  refine mk_fn F sc_next_end (fun vs H Q E h => by
    revert h; intro h; (repeat (first | (obtain ⟨rfl, _⟩ := h; exact rfl) | obtain ⟨_, h⟩ := h))) (fun _ _ _ _ _ _ us hl => match us, hl with | [_, _, _, _], _ => rfl) (t := t_next_end K) (fun cdv A outer s H E hr => ?_) (fun vs H Q E h => pure_next_end vs H Q E h)
  exact pss_cons (ps_if (PW.pt (pw_or (pt_cmp (o_eq hr.units) (pv 3) (pe_cb c_len T.n_len (by decide +kernel) (pa_cons (pv 2) (pa_nil))) (nomark _)) (pw_or1 (PW.pt (pw_and (pt_cmp o_lt (pv 1) (pe_cb c_len T.n_len (by decide +kernel) (pa_cons (pv 0) (pa_nil))) (nomark _)) (pw_and1 (pt_cmp o_lt (pe_ix ix_any (pv 0) (pv 1) (fun _ _ => rfl)) (pe_ix ix_any (pv 2) (pv 3) (fun _ _ => rfl)) (nomark _)))))))) (pss_one (ps_ret (pe_ix ix_any (pv 0) (pv 1) (fun _ _ => rfl)))) (pss_nil))
    (pss_stop (pss_one (ps_ret (pe_ix ix_any (pv 2) (pv 3) (fun _ _ => rfl)))))
theorem ok_swept (T : T0 P K mg) : FR P w K mg base 2 (He.fAd K ("swept", none)) (sp_swept K) := by
  obtain ⟨fd, F⟩ := T.F_swept
  have G_next_end := ok_next_end (P := P) (w := w) (base := base) T
  refine mk_fn F sc_swept (fun vs H Q E h => by
    revert h; intro h; (repeat (first | (obtain ⟨rfl, _⟩ := h; exact rfl) | obtain ⟨_, h⟩ := h))) (fun _ _ _ _ _ _ us hl => match us, hl with | [_, _, _], _ => rfl) (t := t_swept K) (fun cdv A outer s H E hr => ?_) (fun vs H Q E h => pure_swept vs H Q E h)
  exact pss_cons (ps_set (i := 3) sc_swept.nd rfl (Or.inl rfl) (pe_lst (pa_nil)))
    (pss_stop (pss_cons (ps_asg2 (pe_int) (pg_name (i := 4) sc_swept.nd rfl (Or.inl rfl)) (pg_name (i := 5) sc_swept.nd rfl (Or.inl rfl)))
    (pss_stop (pss_cons (ps_asg3 (pe_int) (pg_name (i := 6) sc_swept.nd rfl (Or.inl rfl)) (pg_name (i := 7) sc_swept.nd rfl (Or.inl rfl)) (pg_name (i := 8) sc_swept.nd rfl (Or.inl rfl)))
    (pss_stop (pss_cons (ps_while ownD (PW.pt (pw_or (pt_cmp o_lt (pv 4) (pe_cb c_len T.n_len (by decide +kernel) (pa_cons (pv 0) (pa_nil))) (nomark _)) (pw_or1 (pt_cmp o_lt (pv 5) (pe_cb c_len T.n_len (by decide +kernel) (pa_cons (pv 1) (pa_nil))) (nomark _))))) (pss_cons (ps_set (i := 9) sc_swept.nd rfl (Or.inl rfl) (pe_call (G_next_end) (hr.mono (by decide)) T.g_next_end T.k_next_end passD (pa_cons (pv 0) (pa_cons (pv 4) (pa_cons (pv 1) (pa_cons (pv 5) (pa_nil)))))))
    (pss_stop (pss_cons (ps_if (PW.pt (pw_and (pt_cmp o_lt (pv 4) (pe_cb c_len T.n_len (by decide +kernel) (pa_cons (pv 0) (pa_nil))) (nomark _)) (pw_and1 (pt_cmp (o_eq hr.units) (pe_ix ix_any (pv 0) (pv 4) (fun _ _ => rfl)) (pv 9) (nomark _))))) (pss_cons (ps_set (i := 6) sc_swept.nd rfl (Or.inl rfl) (pe_op o_sub (pe_int) (pv 6)))
    (pss_one (ps_set (i := 4) sc_swept.nd rfl (Or.inl rfl) (pe_op o_add (pv 4) (pe_int))))) (pss_nil))
    (pss_stop (pss_cons (ps_if (PW.pt (pw_and (pt_cmp o_lt (pv 5) (pe_cb c_len T.n_len (by decide +kernel) (pa_cons (pv 1) (pa_nil))) (nomark _)) (pw_and1 (pt_cmp (o_eq hr.units) (pe_ix ix_any (pv 1) (pv 5) (fun _ _ => rfl)) (pv 9) (nomark _))))) (pss_cons (ps_set (i := 7) sc_swept.nd rfl (Or.inl rfl) (pe_op o_sub (pe_int) (pv 7)))
    (pss_one (ps_set (i := 5) sc_swept.nd rfl (Or.inl rfl) (pe_op o_add (pv 5) (pe_int))))) (pss_nil))
    (pss_stop (pss_one (ps_if (pt_cmp (o_ne hr.units) (pe_ix ix_any (pv 2) (pe_op o_add (pe_op o_mulA (pe_int) (pv 6)) (pv 7)) (fun _ _ => rfl)) (pv 8) (nomark _)) (pss_cons (ps_set (i := 8) sc_swept.nd rfl (Or.inl rfl) (pe_op o_sub (pe_int) (pv 8)))
    (pss_one (ps_expr (pe_ml PySem.F.slot_list_append PySem.F.type_list_append m_app (pv 3) (pa_cons (pv 9) (pa_nil)))))) (pss_nil))))))))))
    (pss_stop (pss_one (ps_ret (pe_ct c_tuple T.n_tuple (by decide +kernel) (pa_cons (pv 3) (pa_nil))))))))))))
theorem ok_Bitmap_paired (T : T0 P K mg) : FR P w K mg base 3 (He.fAd K ("Bitmap", some "paired")) (sp_Bitmap_paired K) := by
  obtain ⟨fd, F⟩ := T.F_Bitmap_paired
  have G_Bitmapdd_initdd := ok_Bitmapdd_initdd (P := P) (w := w) (base := base) T
  have G_swept := ok_swept (P := P) (w := w) (base := base) T
  refine mk_fn F sc_Bitmap_paired (fun vs H Q E h => by
    revert h; intro h; (repeat (first | (obtain ⟨rfl, _⟩ := h; exact rfl) | obtain ⟨_, h⟩ := h))) (fun _ _ _ _ _ _ us hl => match us, hl with | [_, _, _], _ => rfl) (t := t_Bitmap_paired K) (fun cdv A outer s H E hr => ?_) (fun vs H Q E h => pure_Bitmap_paired vs H Q E h)
  exact pss_cons (ps_if (pt_cmp (o_ne hr.units) (pe_at (pv 0)) (pe_at (pv 1)) (nomark _)) (pss_one (ps_giv T.X_SizesDiffer (ps_rs takesD T.R_SizesDiffer T.g_SizesDiffer))) (pss_nil))
    (pss_stop (pss_one (ps_ret (pe_giv T.C_Bitmap (pe_mk T.K_Bitmap G_Bitmapdd_initdd (hr.mono (by decide)) T.g_Bitmap passD (pa_cons (pe_at (pv 0)) (pa_cons (pe_call (G_swept) (hr.mono (by decide)) T.g_swept T.k_swept passD (pa_cons (pe_at (pv 0)) (pa_cons (pe_at (pv 1)) (pa_cons (pv 2) (pa_nil))))) (pa_nil))))))))
theorem ok_Bitmapdd_anddd (T : T0 P K mg) : FR P w K mg base 4 (He.fAd K ("Bitmap", some "__and__")) (sp_Bitmapdd_anddd K) := by
  obtain ⟨fd, F⟩ := T.F_Bitmapdd_anddd
  have G_Bitmap_paired := ok_Bitmap_paired (P := P) (w := w) (base := base) T
  refine mk_fn F sc_Bitmapdd_anddd (fun vs H Q E h => by
    revert h; intro h; (repeat (first | (obtain ⟨rfl, _⟩ := h; exact rfl) | obtain ⟨_, h⟩ := h))) (fun _ _ _ _ _ _ us hl => match us, hl with | [_, _], _ => rfl) (t := t_Bitmapdd_anddd K) (fun cdv A outer s H E hr => ?_) (fun vs H Q E h => pure_Bitmapdd_anddd vs H Q E h)
  exact pss_one (ps_ret (pe_meth T.C_Bitmap.sc T.M_Bitmap_paired G_Bitmap_paired (hr.mono (by decide)) passD (pv 0) (pa_cons (pv 1) (pa_cons (pe_giv T.U_AND (pe_glob (by rfl) T.g_AND rfl)) (pa_nil)))))
theorem ok_Bitmap_first (T : T0 P K mg) : FR P w K mg base 6 (He.fAd K ("Bitmap", some "first")) (sp_Bitmap_first K) := by
  obtain ⟨fd, F⟩ := T.F_Bitmap_first
  have G_Bitmap_nth := ok_Bitmap_nth (P := P) (w := w) (base := base) T
  have G_Bitmap_ones := ok_Bitmap_ones (P := P) (w := w) (base := base) T
  have G_Bitmap_span := ok_Bitmap_span (P := P) (w := w) (base := base) T
  have G_Bitmapdd_anddd := ok_Bitmapdd_anddd (P := P) (w := w) (base := base) T
  refine mk_fn F sc_Bitmap_first (fun vs H Q E h => by
    revert h; intro h; (repeat (first | (obtain ⟨rfl, _⟩ := h; exact rfl) | obtain ⟨_, h⟩ := h))) (fun _ _ _ _ _ _ us hl => match us, hl with | [_, _], _ => rfl) (t := t_Bitmap_first K) (fun cdv A outer s H E hr => ?_) (fun vs H Q E h => pure_Bitmap_first vs H Q E h)
  exact pss_cons (ps_if (pt_cmp o_lt (pv 1) (pe_int) (nomark _)) (pss_one (ps_giv T.X_NoSuchRank (ps_rsI takesD T.Xi_NoSuchRank T.n_super T.g_NoSuchRank (hr.mono (by decide)) (pv 1) (fun _ _ _ _ _ _ _ us hl => match us, hl with | [_, _], _ => rfl) rfl ⟨_, rfl, rfl⟩ rfl rfl rfl (by decide +kernel) rfl rfl rfl rfl (by decide) (by decide) (fun _ => rfl) (fun _ => rfl) (fun _ => rfl)))) (pss_nil))
    (pss_stop (pss_cons (ps_if (pt_cmp o_ge (pv 1) (pe_prop T.C_Bitmap.sc T.P_Bitmap_ones G_Bitmap_ones (hr.mono (by decide)) (pv 0)) (nomark _)) (pss_one (ps_ret (pv 0))) (pss_nil))
    (pss_stop (pss_one (ps_ret (pe_op (op_ownB T.C_Bitmap.mf T.M_Bitmapdd_anddd G_Bitmapdd_anddd (hr.mono (by decide)) passD o_and) (pv 0) (pe_stat T.St_Bitmap_span (G_Bitmap_span) (hr.mono (by decide)) passD (pe_glob (by rfl) T.g_Bitmap rfl) (pa_cons (pe_at (pv 0)) (pa_cons (pe_int) (pa_cons (pe_meth T.C_Bitmap.sc T.M_Bitmap_nth G_Bitmap_nth (hr.mono (by decide)) passD (pv 0) (pa_cons (pv 1) (pa_nil))) (pa_nil)))))))))))
theorem ok_Bitmapdd_subdd (T : T0 P K mg) : FR P w K mg base 4 (He.fAd K ("Bitmap", some "__sub__")) (sp_Bitmapdd_subdd K) := by
  obtain ⟨fd, F⟩ := T.F_Bitmapdd_subdd
  have G_Bitmap_paired := ok_Bitmap_paired (P := P) (w := w) (base := base) T
  refine mk_fn F sc_Bitmapdd_subdd (fun vs H Q E h => by
    revert h; intro h; (repeat (first | (obtain ⟨rfl, _⟩ := h; exact rfl) | obtain ⟨_, h⟩ := h))) (fun _ _ _ _ _ _ us hl => match us, hl with | [_, _], _ => rfl) (t := t_Bitmapdd_subdd K) (fun cdv A outer s H E hr => ?_) (fun vs H Q E h => pure_Bitmapdd_subdd vs H Q E h)
  exact pss_one (ps_ret (pe_meth T.C_Bitmap.sc T.M_Bitmap_paired G_Bitmap_paired (hr.mono (by decide)) passD (pv 0) (pa_cons (pv 1) (pa_cons (pe_giv T.U_LESS (pe_glob (by rfl) T.g_LESS rfl)) (pa_nil)))))
theorem ok_Bitmapdd_ordd (T : T0 P K mg) : FR P w K mg base 4 (He.fAd K ("Bitmap", some "__or__")) (sp_Bitmapdd_ordd K) := by
  obtain ⟨fd, F⟩ := T.F_Bitmapdd_ordd
  have G_Bitmap_paired := ok_Bitmap_paired (P := P) (w := w) (base := base) T
  refine mk_fn F sc_Bitmapdd_ordd (fun vs H Q E h => by
    revert h; intro h; (repeat (first | (obtain ⟨rfl, _⟩ := h; exact rfl) | obtain ⟨_, h⟩ := h))) (fun _ _ _ _ _ _ us hl => match us, hl with | [_, _], _ => rfl) (t := t_Bitmapdd_ordd K) (fun cdv A outer s H E hr => ?_) (fun vs H Q E h => pure_Bitmapdd_ordd vs H Q E h)
  exact pss_one (ps_ret (pe_meth T.C_Bitmap.sc T.M_Bitmap_paired G_Bitmap_paired (hr.mono (by decide)) passD (pv 0) (pa_cons (pv 1) (pa_cons (pe_giv T.U_OR (pe_glob (by rfl) T.g_OR rfl)) (pa_nil)))))
theorem ok_Bitmapdd_eqdd (T : T0 P K mg) : FR P w K mg base 1 (He.fAd K ("Bitmap", some "__eq__")) (sp_Bitmapdd_eqdd K) := by
  obtain ⟨fd, F⟩ := T.F_Bitmapdd_eqdd
  refine mk_fn F sc_Bitmapdd_eqdd (fun vs H Q E h => by
    revert h; intro h; (repeat (first | (obtain ⟨rfl, _⟩ := h; exact rfl) | obtain ⟨_, h⟩ := h))) (fun _ _ _ _ _ _ us hl => match us, hl with | [_, _], _ => rfl) (t := t_Bitmapdd_eqdd K) (fun cdv A outer s H E hr => ?_) (fun vs H Q E h => pure_Bitmapdd_eqdd vs H Q E h)
  exact pss_one (ps_ret (pe_and (pe_giv T.C_Bitmap.mf (pe_cb c_isi T.n_isinstance (by decide +kernel) (pa_cons (pv 1) (pa_cons (pe_glob (by rfl) T.g_Bitmap rfl) (pa_nil))))) (pe_and (pe_cmp (o_eq hr.units) (pe_at (pv 0)) (pe_at (pv 1)) (nomark _)) (pe_one (pe_cmp (o_eq hr.units) (pe_at (pv 0)) (pe_at (pv 1)) (nomark _))))))
theorem ok_narrowed (T : T0 P K mg) : FR P w K mg base 2 (He.fAd K ("narrowed", none)) (sp_narrowed K) := by
  obtain ⟨fd, F⟩ := T.F_narrowed
  have G_Bitmapdd_eqdd := ok_Bitmapdd_eqdd (P := P) (w := w) (base := base) T
  refine mk_fn F sc_narrowed (fun vs H Q E h => by
    revert h; intro h; (repeat (first | (obtain ⟨rfl, _⟩ := h; exact rfl) | obtain ⟨_, h⟩ := h))) (fun _ _ _ _ _ _ us hl => match us, hl with | [_], _ => rfl) (t := t_narrowed K) (fun cdv A outer s H E hr => ?_) (fun vs H Q E h => pure_narrowed vs H Q E h)
  exact pss_cons (ps_set (i := 1) sc_narrowed.nd rfl (Or.inl rfl) (pe_ct c_list T.n_list (by decide +kernel) (pa_cons (pv 0) (pa_nil))))
    (pss_stop (pss_cons (ps_while ownD (PW.pt (pw_and (pt_cmp o_gt (pe_cb c_len T.n_len (by decide +kernel) (pa_cons (pv 1) (pa_nil))) (pe_int) (nomark _)) (pw_and1 (pt_cmp (op_eqO T.M_Bitmapdd_eqdd G_Bitmapdd_eqdd (hr.mono (by decide)) passD) (pe_ix ix_any (pv 1) (pe_un u_neg (pe_int)) (fun _ _ => rfl)) (pe_ix ix_any (pv 1) (pe_un u_neg (pe_int)) (fun _ _ => rfl)) (nomark _))))) (pss_one (ps_expr (pe_ml0 PySem.F.slot_list_pop PySem.F.type_list_pop m_pop (pv 1)))))
    (pss_stop (pss_one (ps_ret (pv 1))))))
theorem ok_Columndd_initdd (T : T0 P K mg) : FR P w K mg base 5 (He.fAd K ("Column", some "__init__")) (sp_Columndd_initdd K) := by
  obtain ⟨fd, F⟩ := T.F_Columndd_initdd
  have G_Bitmapdd_anddd := ok_Bitmapdd_anddd (P := P) (w := w) (base := base) T
  have G_narrowed := ok_narrowed (P := P) (w := w) (base := base) T
  refine mk_fn F sc_Columndd_initdd (fun vs H Q E h => by
    revert h; intro h; (repeat (first | (obtain ⟨rfl, _⟩ := h; exact rfl) | obtain ⟨_, h⟩ := h))) (fun _ _ _ _ _ _ us hl => match us, hl with | [_, _, _], _ => rfl) (t := t_Columndd_initdd K) (fun cdv A outer s H E hr => ?_) (fun vs H Q E h => pure_Columndd_initdd vs H Q E h)
  exact pss_cons (ps_if (pt_cmp (o_eq hr.units) (pe_cb c_len T.n_len (by decide +kernel) (pa_cons (pv 2) (pa_nil))) (pe_int) (nomark _)) (pss_one (ps_giv T.X_BadColumn (ps_rs takesD T.R_BadColumn T.g_BadColumn))) (pss_nil))
    (pss_stop (pss_cons (ps_for ownD rfl (pi_seq (pv 2)) (pg_name (i := 3) sc_Columndd_initdd.nd rfl (Or.inl rfl)) (pss_one (ps_if (pt_cmp (o_ne hr.units) (pe_at (pv 3)) (pe_at (pv 1)) (nomark _)) (pss_one (ps_giv T.X_SizesDiffer (ps_rs takesD T.R_SizesDiffer T.g_SizesDiffer))) (pss_nil))))
    (pss_stop (pss_cons (ps_sto (pe_at (pv 1)) (pv 0))
    (pss_stop (pss_cons (ps_sto (pv 1) (pv 0))
    (pss_stop (pss_cons (ps_sto (pe_ct c_tuple T.n_tuple (by decide +kernel) (pa_cons (pe_call (G_narrowed) (hr.mono (by decide)) T.g_narrowed T.k_narrowed passD (pa_cons (pe_lc (own := [("bitmap", 3)]) rfl sc_Columndd_initdd.nd (pi_seq (pv 2)) (blkOk_by (own := [("bitmap", 3)]) (N := ["self", "presence", "slices", "bitmap"]) (sc := defScope s_Columndd_initdd) (by decide +kernel)) (fun _ _ _ _ _ => pg_name (i := 3) sc_Columndd_initdd.nd rfl (Or.inl rfl)) (fun _ _ _ _ _ => pts_nil) (fun _ _ _ _ _ => pe_op (op_ownB T.C_Bitmap.mf T.M_Bitmapdd_anddd G_Bitmapdd_anddd (hr.mono (by decide)) passL0 o_and) (pv 3) (pv 1))) (pa_nil))) (pa_nil))) (pv 0))
    (pss_stop (pss_one (ps_sto (pe_cb c_len T.n_len (by decide +kernel) (pa_cons (pe_at (pv 0)) (pa_nil))) (pv 0))))))))))))
theorem ok_Summary_built (T : T0 P K mg) : FR P w K mg base 7 (He.fAd K ("Summary", some "built")) (sp_Summary_built K) := by
  obtain ⟨fd, F⟩ := T.F_Summary_built
  have G_Bitmap_first := ok_Bitmap_first (P := P) (w := w) (base := base) T
  have G_Bitmap_full := ok_Bitmap_full (P := P) (w := w) (base := base) T
  have G_Bitmap_ones := ok_Bitmap_ones (P := P) (w := w) (base := base) T
  have G_Bitmapdd_ordd := ok_Bitmapdd_ordd (P := P) (w := w) (base := base) T
  have G_Bitmapdd_subdd := ok_Bitmapdd_subdd (P := P) (w := w) (base := base) T
  have G_Columndd_initdd := ok_Columndd_initdd (P := P) (w := w) (base := base) T
  have G_Summary_ranges := ok_Summary_ranges (P := P) (w := w) (base := base) T
  refine mk_fn F sc_Summary_built (fun vs H Q E h => by
    revert h; intro h; (repeat (first | (obtain ⟨rfl, _⟩ := h; exact rfl) | obtain ⟨_, h⟩ := h))) (fun _ _ _ _ _ _ us hl => match us, hl with | [_, _, _], _ => rfl) (t := t_Summary_built K) (fun cdv A outer s H E hr => ?_) (fun vs H Q E h => pure_Summary_built vs H Q E h)
  exact pss_cons (ps_set (i := 3) sc_Summary_built.nd rfl (Or.inl rfl) (pe_stat T.St_Bitmap_full (G_Bitmap_full) (hr.mono (by decide)) passD (pe_glob (by rfl) T.g_Bitmap rfl) (pa_cons (pe_at (pv 0)) (pa_nil))))
    (pss_stop (pss_cons (ps_set (i := 4) sc_Summary_built.nd rfl (Or.inl rfl) (pe_methD T.D_Summary.cl T.M_Summary_ranges G_Summary_ranges (hr.mono (by decide)) passD (pv 0) (pa_cons (pv 1) (pa_nil))))
    (pss_stop (pss_cons (ps_set (i := 5) sc_Summary_built.nd rfl (Or.inl rfl) (pe_meth T.C_Bitmap.sc T.M_Bitmap_first G_Bitmap_first (hr.mono (by decide)) passD (pv 3) (pa_cons (pv 2) (pa_nil))))
    (pss_stop (pss_cons (ps_set (i := 6) sc_Summary_built.nd rfl (Or.inl rfl) (pe_lst (pa_nil)))
    (pss_stop (pss_cons (ps_for ownD rfl (pi_rngD (by rfl) T.n_range (pa_cons (pe_op (op_ownB T.C_Bitmap.mf T.M_Bitmapdd_subdd G_Bitmapdd_subdd (hr.mono (by decide)) passD o_sub) (pe_cb c_len T.n_len (by decide +kernel) (pa_cons (pv 1) (pa_nil))) (pe_int)) (pa_cons (pe_un u_neg (pe_int)) (pa_cons (pe_un u_neg (pe_int)) (pa_nil))))) (pg_name (i := 7) sc_Summary_built.nd rfl (Or.inl rfl)) (pss_cons (ps_asg (pe_ix ix_any (pv 1) (pv 7) (fun _ _ => rfl)) (pg_tup rfl (pgs_cons (pg_name (i := 8) sc_Summary_built.nd rfl (Or.inl rfl)) (pgs_cons (pg_name (i := 9) sc_Summary_built.nd rfl (Or.inl rfl)) (pgs_cons (pg_name (i := 10) sc_Summary_built.nd rfl (Or.inl rfl)) (pgs_nil))))))
    (pss_stop (pss_cons (ps_if (pt_of (pv 8)) (pss_cons (ps_set (i := 11) sc_Summary_built.nd rfl (Or.inl rfl) (pe_op (op_ownB T.C_Bitmap.mf T.M_Bitmapdd_subdd G_Bitmapdd_subdd (hr.mono (by decide)) passD o_sub) (pv 3) (pv 5)))
    (pss_cons (ps_set (i := 12) sc_Summary_built.nd rfl (Or.inl rfl) (pe_op (op_ownB T.C_Bitmap.mf T.M_Bitmapdd_ordd G_Bitmapdd_ordd (hr.mono (by decide)) passD o_or) (pv 5) (pe_meth T.C_Bitmap.sc T.M_Bitmap_first G_Bitmap_first (hr.mono (by decide)) passD (pv 11) (pa_cons (pe_op (op_ownB T.C_Bitmap.mf T.M_Bitmapdd_subdd G_Bitmapdd_subdd (hr.mono (by decide)) passD o_sub) (pv 10) (pe_prop T.C_Bitmap.sc T.P_Bitmap_ones G_Bitmap_ones (hr.mono (by decide)) (pv 5))) (pa_nil)))))
    (pss_cons (ps_set (i := 13) sc_Summary_built.nd rfl (Or.inl rfl) (pe_op (op_ownB T.C_Bitmap.mf T.M_Bitmapdd_subdd G_Bitmapdd_subdd (hr.mono (by decide)) passD o_sub) (pe_cb (c_max2 rfl) T.n_max (by decide +kernel) (pa_cons (pe_ix ix_any (pe_ix ix_any (pv 4) (pv 7) (fun _ _ => rfl)) (pe_int) (fun _ _ => rfl)) (pa_cons (pe_prop T.C_Bitmap.sc T.P_Bitmap_ones G_Bitmap_ones (hr.mono (by decide)) (pv 5)) (pa_nil)))) (pe_prop T.C_Bitmap.sc T.P_Bitmap_ones G_Bitmap_ones (hr.mono (by decide)) (pv 5))))
    (pss_one (ps_set (i := 5) sc_Summary_built.nd rfl (Or.inl rfl) (pe_op (op_ownB T.C_Bitmap.mf T.M_Bitmapdd_ordd G_Bitmapdd_ordd (hr.mono (by decide)) passD o_or) (pv 5) (pe_op (op_ownB T.C_Bitmap.mf T.M_Bitmapdd_subdd G_Bitmapdd_subdd (hr.mono (by decide)) passD o_sub) (pv 11) (pe_meth T.C_Bitmap.sc T.M_Bitmap_first G_Bitmap_first (hr.mono (by decide)) passD (pv 11) (pa_cons (pe_op (op_ownB T.C_Bitmap.mf T.M_Bitmapdd_subdd G_Bitmapdd_subdd (hr.mono (by decide)) passD o_sub) (pe_prop T.C_Bitmap.sc T.P_Bitmap_ones G_Bitmap_ones (hr.mono (by decide)) (pv 11)) (pv 13)) (pa_nil)))))))))) (pss_cons (ps_set (i := 12) sc_Summary_built.nd rfl (Or.inl rfl) (pe_meth T.C_Bitmap.sc T.M_Bitmap_first G_Bitmap_first (hr.mono (by decide)) passD (pv 5) (pa_cons (pv 10) (pa_nil))))
    (pss_cons (ps_set (i := 14) sc_Summary_built.nd rfl (Or.inl rfl) (pe_cb (c_min2 rfl) T.n_min (by decide +kernel) (pa_cons (pe_ix ix_any (pe_ix ix_any (pv 4) (pv 7) (fun _ _ => rfl)) (pe_int) (fun _ _ => rfl)) (pa_cons (pe_prop T.C_Bitmap.sc T.P_Bitmap_ones G_Bitmap_ones (hr.mono (by decide)) (pv 5)) (pa_nil)))))
    (pss_one (ps_set (i := 5) sc_Summary_built.nd rfl (Or.inl rfl) (pe_op (op_ownB T.C_Bitmap.mf T.M_Bitmapdd_subdd G_Bitmapdd_subdd (hr.mono (by decide)) passD o_sub) (pv 5) (pe_meth T.C_Bitmap.sc T.M_Bitmap_first G_Bitmap_first (hr.mono (by decide)) passD (pv 5) (pa_cons (pe_op (op_ownB T.C_Bitmap.mf T.M_Bitmapdd_subdd G_Bitmapdd_subdd (hr.mono (by decide)) passD o_sub) (pe_prop T.C_Bitmap.sc T.P_Bitmap_ones G_Bitmap_ones (hr.mono (by decide)) (pv 5)) (pv 14)) (pa_nil)))))))))
    (pss_stop (pss_cons (ps_if (pt_of (pv 9)) (pss_one (ps_set (i := 12) sc_Summary_built.nd rfl (Or.inl rfl) (pe_op (op_ownB T.C_Bitmap.mf T.M_Bitmapdd_subdd G_Bitmapdd_subdd (hr.mono (by decide)) passD o_sub) (pv 3) (pv 12)))) (pss_nil))
    (pss_stop (pss_one (ps_expr (pe_ml PySem.F.slot_list_append PySem.F.type_list_append m_app (pv 6) (pa_cons (pv 12) (pa_nil))))))))))))
    (pss_stop (pss_cons (ps_expr (pe_ml0 PySem.F.slot_list_reverse PySem.F.type_list_reverse m_rev (pv 6)))
    (pss_stop (pss_one (ps_ret (pe_giv T.C_Column (pe_mk T.K_Column G_Columndd_initdd (hr.mono (by decide)) T.g_Column passD (pa_cons (pv 3) (pa_cons (pv 6) (pa_nil))))))))))))))))))
theorem okd_Summary_example (T : T0 P K mg) {fd : FuncData} (F : FunD K "example" "Summary.example" (defArgs s_Summary_example) (defBody s_Summary_example) (defScope s_Summary_example) [] [("equal", V.bl false)] (He.fAd K ("Summary", some "example")) fd) {ex : List V} (hb : ∃ ds, Vals ex ds ∧ Binds K fd ["self", "number", "wanted", "equal"] ds) : FR P w K mg base 8 (He.fAd K ("Summary", some "example")) (spD (sp_Summary_example K) ex) := by
  have GK_Summary_bounds_2_equal := ok_K_Summary_bounds_2_equal (P := P) (w := w) (base := base) T
  have G_Summary_built := ok_Summary_built (P := P) (w := w) (base := base) T
  have G_Summary_outside := ok_Summary_outside (P := P) (w := w) (base := base) T
  have G_Summary_steps := ok_Summary_steps (P := P) (w := w) (base := base) T
  refine mk_fnD F sc_Summary_example (fun vs H Q E h => by
    revert h; intro h; (repeat (first | (obtain ⟨rfl, _⟩ := h; exact rfl) | obtain ⟨_, h⟩ := h))) hb (t := t_Summary_example K) (fun cdv A outer s H E hr => ?_) (fun vs H Q E h => pure_Summary_example vs H Q E h)
  exact pss_cons (ps_asg (pe_methDK (ks := ["equal"]) T.D_Summary.cl T.M_Summary_bounds GK_Summary_bounds_2_equal (hr.mono (by decide)) passD (pv 0) (pa_cons (pv 1) (pa_nil)) (pk_cons (pv 3) (pk_nil))) (pg_tup rfl (pgs_cons (pg_name (i := 4) sc_Summary_example.nd rfl (Or.inl rfl)) (pgs_cons (pg_name (i := 5) sc_Summary_example.nd rfl (Or.inl rfl)) (pgs_nil)))))
    (pss_stop (pss_cons (ps_if (pt_not (pt_chain o_le o_le (pv 4) (pv 2) (pv 5))) (pss_one (ps_giv T.X_OutOfReach (ps_rsI takesD T.Xi_OutOfReach T.n_super T.g_OutOfReach (hr.mono (by decide)) (pv 2) (fun _ _ _ _ _ _ _ us hl => match us, hl with | [_, _], _ => rfl) rfl ⟨_, rfl, rfl⟩ rfl rfl rfl (by decide +kernel) rfl rfl rfl rfl (by decide) (by decide) (fun _ => rfl) (fun _ => rfl) (fun _ => rfl)))) (pss_nil))
    (pss_stop (pss_cons (ps_if (pt_of (pe_methD T.D_Summary.cl T.M_Summary_outside G_Summary_outside (hr.mono (by decide)) passD (pv 0) (pa_cons (pv 1) (pa_cons (pv 3) (pa_nil))))) (pss_one (ps_ret (pe_methD T.D_Summary.cl T.M_Summary_built G_Summary_built (hr.mono (by decide)) passD (pv 0) (pa_cons (pe_methD T.D_Summary.cl T.M_Summary_steps G_Summary_steps (hr.mono (by decide)) passD (pv 0) (pa_cons (pe_un u_neg (pe_at (pv 0))) (pa_cons (pe_bl) (pa_nil)))) (pa_cons (pe_at (pv 0)) (pa_nil)))))) (pss_nil))
    (pss_stop (pss_one (ps_ret (pe_methD T.D_Summary.cl T.M_Summary_built G_Summary_built (hr.mono (by decide)) passD (pv 0) (pa_cons (pe_methD T.D_Summary.cl T.M_Summary_steps G_Summary_steps (hr.mono (by decide)) passD (pv 0) (pa_cons (pv 1) (pa_cons (pv 3) (pa_nil)))) (pa_cons (pv 2) (pa_nil)))))))))))
theorem ok_K_Summary_example_3_equal (T : T0 P K mg) : FK P w K mg base 8 (He.fAd K ("Summary", some "example")) 3 ["equal"] (sp_Summary_example K) (fun vs zs => vs ++ (zs)) := by
  obtain ⟨fd, F⟩ := T.F_Summary_example
  have GK_Summary_bounds_2_equal := ok_K_Summary_bounds_2_equal (P := P) (w := w) (base := base) T
  have G_Summary_built := ok_Summary_built (P := P) (w := w) (base := base) T
  have G_Summary_outside := ok_Summary_outside (P := P) (w := w) (base := base) T
  have G_Summary_steps := ok_Summary_steps (P := P) (w := w) (base := base) T
  obtain ⟨mv, hb⟩ := FunD.kbinds0 (ps := ["self", "number", "wanted", "equal"]) F 3 ["equal"] [] (fun us mv ws => us ++ (ws)) (List.cons_ne_nil _ _) (by decide) (fun r1 r2 r3 => r1.append (r3)) (fun D doc pm an cdv ct us mv ws l1 l2 l3 => match us, mv, ws, l1, l2, l3 with | [_, _, _], [], [_], _, _, _ => rfl)
  refine mk_fnK F sc_Summary_example (fun vs H Q E h => by
    revert h; intro h; (repeat (first | (obtain ⟨rfl, _⟩ := h; exact rfl) | obtain ⟨_, h⟩ := h))) ⟨_, hb⟩ (t := t_Summary_example K) (fun cdv A outer s H E hr => ?_) (fun vs H Q E h => pure_Summary_example vs H Q E h)
  exact pss_cons (ps_asg (pe_methDK (ks := ["equal"]) T.D_Summary.cl T.M_Summary_bounds GK_Summary_bounds_2_equal (hr.mono (by decide)) passD (pv 0) (pa_cons (pv 1) (pa_nil)) (pk_cons (pv 3) (pk_nil))) (pg_tup rfl (pgs_cons (pg_name (i := 4) sc_Summary_example.nd rfl (Or.inl rfl)) (pgs_cons (pg_name (i := 5) sc_Summary_example.nd rfl (Or.inl rfl)) (pgs_nil)))))
    (pss_stop (pss_cons (ps_if (pt_not (pt_chain o_le o_le (pv 4) (pv 2) (pv 5))) (pss_one (ps_giv T.X_OutOfReach (ps_rsI takesD T.Xi_OutOfReach T.n_super T.g_OutOfReach (hr.mono (by decide)) (pv 2) (fun _ _ _ _ _ _ _ us hl => match us, hl with | [_, _], _ => rfl) rfl ⟨_, rfl, rfl⟩ rfl rfl rfl (by decide +kernel) rfl rfl rfl rfl (by decide) (by decide) (fun _ => rfl) (fun _ => rfl) (fun _ => rfl)))) (pss_nil))
    (pss_stop (pss_cons (ps_if (pt_of (pe_methD T.D_Summary.cl T.M_Summary_outside G_Summary_outside (hr.mono (by decide)) passD (pv 0) (pa_cons (pv 1) (pa_cons (pv 3) (pa_nil))))) (pss_one (ps_ret (pe_methD T.D_Summary.cl T.M_Summary_built G_Summary_built (hr.mono (by decide)) passD (pv 0) (pa_cons (pe_methD T.D_Summary.cl T.M_Summary_steps G_Summary_steps (hr.mono (by decide)) passD (pv 0) (pa_cons (pe_un u_neg (pe_at (pv 0))) (pa_cons (pe_bl) (pa_nil)))) (pa_cons (pe_at (pv 0)) (pa_nil)))))) (pss_nil))
    (pss_stop (pss_one (ps_ret (pe_methD T.D_Summary.cl T.M_Summary_built G_Summary_built (hr.mono (by decide)) passD (pv 0) (pa_cons (pe_methD T.D_Summary.cl T.M_Summary_steps G_Summary_steps (hr.mono (by decide)) passD (pv 0) (pa_cons (pv 1) (pa_cons (pv 3) (pa_nil)))) (pa_cons (pv 2) (pa_nil)))))))))))
theorem ok__law_is_number (T : T0 P K mg) : FR P w K mg base 1 (He.fAd K ("_law_is_number", none)) (sp__law_is_number K) := by
  obtain ⟨fd, F⟩ := T.F__law_is_number
  refine mk_fn F sc__law_is_number (fun vs H Q E h => by
    revert h; intro h; (repeat (first | (obtain ⟨rfl, _⟩ := h; exact rfl) | obtain ⟨_, h⟩ := h))) (fun _ _ _ _ _ _ us hl => match us, hl with | [_], _ => rfl) (t := t__law_is_number K) (fun cdv A outer s H E hr => ?_) (fun vs H Q E h => pure__law_is_number vs H Q E h)
  exact pss_one (ps_ret (pe_and (pe_cb c_isi T.n_isinstance (by decide +kernel) (pa_cons (pv 0) (pa_cons (pe_bt T.n_int (by decide +kernel)) (pa_nil)))) (pe_one (pe_not (pe_cb c_isi T.n_isinstance (by decide +kernel) (pa_cons (pv 0) (pa_cons (pe_bt T.n_bool (by decide +kernel)) (pa_nil))))))))
theorem ok__law_is_bitmap (T : T0 P K mg) : FR P w K mg base 2 (He.fAd K ("_law_is_bitmap", none)) (sp__law_is_bitmap K) := by
  obtain ⟨fd, F⟩ := T.F__law_is_bitmap
  have G__law_is_number := ok__law_is_number (P := P) (w := w) (base := base) T
  refine mk_fn F sc__law_is_bitmap (fun vs H Q E h => by
    revert h; intro h; (repeat (first | (obtain ⟨rfl, _⟩ := h; exact rfl) | obtain ⟨_, h⟩ := h))) (fun _ _ _ _ _ _ us hl => match us, hl with | [_, _], _ => rfl) (t := t__law_is_bitmap K) (fun cdv A outer s H E hr => ?_) (fun vs H Q E h => pure__law_is_bitmap vs H Q E h)
  exact pss_cons (ps_if (PW.pt (pw_or (pt_not (pt_of (pe_giv T.C_Bitmap.mf (pe_cb c_isi T.n_isinstance (by decide +kernel) (pa_cons (pv 0) (pa_cons (pe_glob (by rfl) T.g_Bitmap rfl) (pa_nil))))))) (pw_or (pt_not (pt_of (pe_call (G__law_is_number) (hr.mono (by decide)) T.g__law_is_number T.k__law_is_number passD (pa_cons (pe_at (pv 0)) (pa_nil))))) (pw_or (pt_cmp (o_ne hr.units) (pe_at (pv 0)) (pv 1) (nomark _)) (pw_or1 (pt_not (pt_of (pe_cb c_isi T.n_isinstance (by decide +kernel) (pa_cons (pe_at (pv 0)) (pa_cons (pe_bt T.n_tuple (by decide +kernel)) (pa_nil))))))))))) (pss_one (ps_ret (pe_bl))) (pss_nil))
    (pss_stop (pss_cons (ps_set (i := 2) sc__law_is_bitmap.nd rfl (Or.inl rfl) (pe_un u_neg (pe_int)))
    (pss_stop (pss_cons (ps_for ownD rfl (pi_seq (pe_at (pv 0))) (pg_name (i := 3) sc__law_is_bitmap.nd rfl (Or.inl rfl)) (pss_cons (ps_if (PW.pt (pw_or (pt_not (pt_of (pe_call (G__law_is_number) (hr.mono (by decide)) T.g__law_is_number T.k__law_is_number passD (pa_cons (pv 3) (pa_nil))))) (pw_or (pt_cmp o_le (pv 3) (pv 2) (nomark _)) (pw_or1 (pt_cmp o_ge (pv 3) (pv 1) (nomark _)))))) (pss_one (ps_ret (pe_bl))) (pss_nil))
    (pss_stop (pss_one (ps_set (i := 2) sc__law_is_bitmap.nd rfl (Or.inl rfl) (pv 3))))))
    (pss_stop (pss_one (ps_ret (pe_bl))))))))
theorem ok__law_passing (T : T0 P K mg) : FR P w K mg base 4 (He.fAd K ("_law_passing", none)) (sp__law_passing K) := by
  obtain ⟨fd, F⟩ := T.F__law_passing
  have G__law_is_bitmap := ok__law_is_bitmap (P := P) (w := w) (base := base) T
  have G__law_is_number := ok__law_is_number (P := P) (w := w) (base := base) T
  have G__law_numbers := ok__law_numbers (P := P) (w := w) (base := base) T
  have G__law_ones := ok__law_ones (P := P) (w := w) (base := base) T
  have G__law_passes := ok__law_passes (P := P) (w := w) (base := base) T
  refine mk_fn F sc__law_passing (fun vs H Q E h => by
    revert h; intro h; (repeat (first | (obtain ⟨rfl, _⟩ := h; exact rfl) | obtain ⟨_, h⟩ := h))) (fun _ _ _ _ _ _ us hl => match us, hl with | [_, _, _, _, _], _ => rfl) (t := t__law_passing K) (fun cdv A outer s H E hr => ?_) (fun vs H Q E h => pure__law_passing vs H Q E h)
  exact pss_cons (ps_if (PW.pt (pw_or (pt_not (pt_of (pe_giv T.C_Column.mf (pe_cb c_isi T.n_isinstance (by decide +kernel) (pa_cons (pv 0) (pa_cons (pe_glob (by rfl) T.g_Column rfl) (pa_nil))))))) (pw_or (pt_cmp (o_ne hr.units) (pe_at (pv 0)) (pv 1) (nomark _)) (pw_or (pt_not (pt_of (pe_call (G__law_is_number) (hr.mono (by decide)) T.g__law_is_number T.k__law_is_number passD (pa_cons (pe_at (pv 0)) (pa_nil))))) (pw_or1 (pt_cmp o_gt (pe_at (pv 0)) (pe_cb c_len T.n_len (by decide +kernel) (pa_cons (pv 2) (pa_nil))) (nomark _))))))) (pss_one (ps_ret (pe_un u_neg (pe_int)))) (pss_nil))
    (pss_stop (pss_cons (ps_if (PW.pt (pw_or (pt_not (pt_of (pe_call (G__law_is_bitmap) (hr.mono (by decide)) T.g__law_is_bitmap T.k__law_is_bitmap passD (pa_cons (pe_at (pv 0)) (pa_cons (pv 1) (pa_nil)))))) (pw_or1 (pt_cmp (o_ne hr.units) (pe_call (G__law_ones) (hr.mono (by decide)) T.g__law_ones T.k__law_ones passD (pa_cons (pe_at (pe_at (pv 0))) (pa_cons (pv 1) (pa_nil)))) (pv 1) (nomark _))))) (pss_one (ps_ret (pe_un u_neg (pe_int)))) (pss_nil))
    (pss_stop (pss_cons (ps_if (PW.pt (pw_or (pt_not (pt_of (pe_cb c_isi T.n_isinstance (by decide +kernel) (pa_cons (pe_at (pv 0)) (pa_cons (pe_bt T.n_tuple (by decide +kernel)) (pa_nil)))))) (pw_or (pt_cmp (o_ne hr.units) (pe_cb c_len T.n_len (by decide +kernel) (pa_cons (pe_at (pv 0)) (pa_nil))) (pe_at (pv 0)) (nomark _)) (pw_or1 (pt_cmp o_lt (pe_at (pv 0)) (pe_int) (nomark _)))))) (pss_one (ps_ret (pe_un u_neg (pe_int)))) (pss_nil))
    (pss_stop (pss_cons (ps_for ownD rfl (pi_rng (by rfl) T.n_range (pa_cons (pe_cb c_len T.n_len (by decide +kernel) (pa_cons (pv 2) (pa_nil))) (pa_nil))) (pg_name (i := 5) sc__law_passing.nd rfl (Or.inl rfl)) (pss_cons (ps_set (i := 6) sc__law_passing.nd rfl (Or.inl rfl) (pe_ix ix_any (pe_at (pv 0)) (pe_cb (c_min2 rfl) T.n_min (by decide +kernel) (pa_cons (pv 5) (pa_cons (pe_op o_sub (pe_at (pv 0)) (pe_int)) (pa_nil)))) (fun _ _ => rfl)))
    (pss_stop (pss_one (ps_if (PW.pt (pw_or (pt_not (pt_of (pe_call (G__law_is_bitmap) (hr.mono (by decide)) T.g__law_is_bitmap T.k__law_is_bitmap passD (pa_cons (pv 6) (pa_cons (pv 1) (pa_nil)))))) (pw_or1 (pt_cmp (o_ne hr.units) (pe_call (G__law_ones) (hr.mono (by decide)) T.g__law_ones T.k__law_ones passD (pa_cons (pe_at (pv 6)) (pa_cons (pv 1) (pa_nil)))) (pe_ix ix_any (pv 2) (pv 5) (fun _ _ => rfl)) (nomark _))))) (pss_one (ps_ret (pe_un u_neg (pe_int)))) (pss_nil))))))
    (pss_stop (pss_one (ps_ret (pe_call (G__law_passes) (hr.mono (by decide)) T.g__law_passes T.k__law_passes passD (pa_cons (pe_call (G__law_numbers) (hr.mono (by decide)) T.g__law_numbers T.k__law_numbers passD (pa_cons (pe_lc (own := [("_law_bitmap", 6)]) rfl sc__law_passing.nd (pi_seq (pe_at (pv 0))) (blkOk_by (own := [("_law_bitmap", 6)]) (N := ["_law_x", "_law_many", "_law_counts", "_law_c", "_law_equal", "_law_place", "_law_bitmap"]) (sc := defScope s__law_passing) (by decide +kernel)) (fun _ _ _ _ _ => pg_name (i := 6) sc__law_passing.nd rfl (Or.inl rfl)) (fun _ _ _ _ _ => pts_nil) (fun _ _ _ _ _ => pe_ct c_list T.n_list (by decide +kernel) (pa_cons (pe_at (pv 6)) (pa_nil)))) (pa_cons (pv 1) (pa_nil)))) (pa_cons (pv 3) (pa_cons (pv 4) (pa_nil))))))))))))))
theorem ok__law_refused (T : T0 P K mg) : FR P w K mg base 9 (He.fAd K ("_law_refused", none)) (sp__law_refused K) := by
  obtain ⟨fd, F⟩ := T.F__law_refused
  have GK_Summary_example_3_equal := ok_K_Summary_example_3_equal (P := P) (w := w) (base := base) T
  refine mk_fn F sc__law_refused (fun vs H Q E h => by
    revert h; intro h; (repeat (first | (obtain ⟨rfl, _⟩ := h; exact rfl) | obtain ⟨_, h⟩ := h))) (fun _ _ _ _ _ _ us hl => match us, hl with | [_, _, _, _], _ => rfl) (t := t__law_refused K) (fun cdv A outer s H E hr => ?_) (fun vs H Q E h => pure__law_refused vs H Q E h)
  exact pss_cons (ps_set (i := 4) sc__law_refused.nd rfl (Or.inl rfl) (pe_lst (pa_nil)))
    (pss_stop (pss_cons (ps_giv T.X_OutOfReach (ps_try sc__law_refused.nd T.g_OutOfReach takesD (fun W1 pn1 xe1 tk1 po1 => pss_one (ps_expr (pe_methDK (ks := ["equal"]) T.D_Summary.cl T.M_Summary_example GK_Summary_example_3_equal (hr.mono (by decide)) (passAt tk1) (pv 0) (pa_cons (pv 1) (pa_cons (pv 2) (pa_nil))) (pk_cons (pv 3) (pk_nil))))) (fun a1 oe1 cls1 d1 pn1 hz1 hf1 => pss_one (ps_set (i := 4) sc__law_refused.nd rfl (Or.inl rfl) (pe_lst (pa_cons (pe_xfX T.Xf_OutOfReach_number hz1 hf1 (pv 5)) (pa_nil)))))))
    (pss_stop (pss_one (ps_ret (pe_cmp (o_eq hr.units) (pv 4) (pe_lst (pa_cons (pv 2) (pa_nil))) (nomark _)))))))
theorem ok__law_round (T : T0 P K mg) : FR P w K mg base 10 (He.fAd K ("_law_round", none)) (sp__law_round K) := by
  obtain ⟨fd, F⟩ := T.F__law_round
  have GK_Summary_bounds_2_equal := ok_K_Summary_bounds_2_equal (P := P) (w := w) (base := base) T
  have GK_Summary_example_3_equal := ok_K_Summary_example_3_equal (P := P) (w := w) (base := base) T
  have G_Summary_kth_bounds := ok_Summary_kth_bounds (P := P) (w := w) (base := base) T
  have G_Summary_total := ok_Summary_total (P := P) (w := w) (base := base) T
  have G_Summarydd_initdd := ok_Summarydd_initdd (P := P) (w := w) (base := base) T
  have G__law_at_index := ok__law_at_index (P := P) (w := w) (base := base) T
  have G__law_draw := ok__law_draw (P := P) (w := w) (base := base) T
  have G__law_numbers := ok__law_numbers (P := P) (w := w) (base := base) T
  have G__law_ones := ok__law_ones (P := P) (w := w) (base := base) T
  have G__law_passes := ok__law_passes (P := P) (w := w) (base := base) T
  have G__law_passing := ok__law_passing (P := P) (w := w) (base := base) T
  have G__law_places := ok__law_places (P := P) (w := w) (base := base) T
  have G__law_refused := ok__law_refused (P := P) (w := w) (base := base) T
  have G__law_rotated := ok__law_rotated (P := P) (w := w) (base := base) T
  have G__law_size := ok__law_size (P := P) (w := w) (base := base) T
  have G__law_wide := ok__law_wide (P := P) (w := w) (base := base) T
  refine mk_fn F sc__law_round (fun vs H Q E h => by
    revert h; intro h; (repeat (first | (obtain ⟨rfl, _⟩ := h; exact rfl) | obtain ⟨_, h⟩ := h))) (fun _ _ _ _ _ _ us hl => match us, hl with | [_, _, _], _ => rfl) (t := t__law_round K) (fun cdv A outer s H E hr => ?_) (fun vs H Q E h => pure__law_round vs H Q E h)
  exact pss_cons (ps_set (i := 3) sc__law_round.nd rfl (Or.inr rfl) (pe_call (G__law_size) (hr.mono (by decide)) T.g__law_size T.k__law_size passD (pa_cons (pv 0) (pa_cons (pv 1) (pa_nil)))))
    (pss_stop (pss_cons (ps_if (pt_of (pv 2)) (pss_one (ps_set (i := 4) sc__law_round.nd rfl (Or.inl rfl) (pe_call (G__law_places) (hr.mono (by decide)) T.g__law_places T.k__law_places passD (pa_cons (pv 0) (pa_cons (pv 1) (pa_cons (pv 3) (pa_cons (pe_int) (pa_cons (pe_int) (pa_nil))))))))) (pss_one (ps_set (i := 4) sc__law_round.nd rfl (Or.inl rfl) (pe_call (G__law_places) (hr.mono (by decide)) T.g__law_places T.k__law_places passD (pa_cons (pv 0) (pa_cons (pv 1) (pa_cons (pv 3) (pa_cons (pe_int) (pa_cons (pe_int) (pa_nil))))))))))
    (pss_stop (pss_cons (ps_set (i := 5) sc__law_round.nd rfl (Or.inl rfl) (pe_lst (pa_nil)))
    (pss_stop (pss_cons (ps_for ownD rfl (pi_seq (pv 4)) (pg_name (i := 6) sc__law_round.nd rfl (Or.inl rfl)) (pss_one (ps_expr (pe_ml PySem.F.slot_list_append PySem.F.type_list_append m_app (pv 5) (pa_cons (pe_call (G__law_rotated) (hr.mono (by decide)) T.g__law_rotated T.k__law_rotated passD (pa_cons (pv 6) (pa_cons (pv 3) (pa_cons (pe_call (G__law_wide) (hr.mono (by decide)) T.g__law_wide T.k__law_wide passD (pa_cons (pv 0) (pa_cons (pv 1) (pa_cons (pe_op o_add (pv 3) (pe_int)) (pa_nil))))) (pa_nil))))) (pa_nil))))))
    (pss_stop (pss_cons (ps_setLc (i := 7) (own := [("_law_ends_here", 6)]) rfl sc__law_round.nd rfl rfl (sw_true rfl rfl rfl (by decide +kernel)) (pi_seq (pv 4)) (blkOk_by (own := [("_law_ends_here", 6)]) (N := ["_law_script", "_law_state", "_law_wide_here", "_law_size_here", "_law_parts", "_law_moved", "_law_ends_here", "_law_counts", "_law_one", "_law_other", "_law_half", "_law_c", "_law_far", "_law_step", "_law_equal", "_law_summary", "_law_least", "_law_greatest", "_law_stretches", "_law_passing_here", "_law_low", "_law_high", "_law_own", "_law_between", "_law_wanted", "_law_stretch"]) (sc := defScope s__law_round) (by decide +kernel)) (fun _ _ _ _ _ => pg_name (i := 6) sc__law_round.nd rfl (Or.inl rfl)) (fun _ _ _ _ _ => pts_nil) (fun _ _ _ _ _ => pe_call (G__law_ones) (hr.mono (by decide)) T.g__law_ones T.k__law_ones passL0 (pa_cons (pv 6) (pa_cons (pv 3) (pa_nil)))))
    (pss_stop (pss_cons (ps_set (i := 8) sc__law_round.nd rfl (Or.inl rfl) (pe_call (G__law_numbers) (hr.mono (by decide)) T.g__law_numbers T.k__law_numbers passD (pa_cons (pv 4) (pa_cons (pv 3) (pa_nil)))))
    (pss_stop (pss_cons (ps_set (i := 9) sc__law_round.nd rfl (Or.inl rfl) (pe_call (G__law_numbers) (hr.mono (by decide)) T.g__law_numbers T.k__law_numbers passD (pa_cons (pv 5) (pa_cons (pv 3) (pa_nil)))))
    (pss_stop (pss_cons (ps_set (i := 10) sc__law_round.nd rfl (Or.inl rfl) (pe_op o_shl (pe_int) (pe_op o_sub (pe_cb c_len T.n_len (by decide +kernel) (pa_cons (pv 4) (pa_nil))) (pe_int))))
    (pss_stop (pss_cons (ps_if (pt_of (pv 2)) (pss_one (ps_set (i := 11) sc__law_round.nd rfl (Or.inl rfl) (pe_op o_sub (pe_op o_sub (pe_call (G__law_wide) (hr.mono (by decide)) T.g__law_wide T.k__law_wide passD (pa_cons (pv 0) (pa_cons (pv 1) (pa_cons (pe_op o_add (pe_op o_mulA (pe_int) (pv 10)) (pe_int)) (pa_nil))))) (pv 10)) (pe_int)))) (pss_one (ps_set (i := 11) sc__law_round.nd rfl (Or.inl rfl) (pe_op o_sub (pe_op o_sub (pe_call (G__law_draw) (hr.mono (by decide)) T.g__law_draw T.k__law_draw passD (pa_cons (pv 0) (pa_cons (pv 1) (pa_cons (pe_op o_add (pe_op o_mulA (pe_int) (pv 10)) (pe_int)) (pa_nil))))) (pv 10)) (pe_int)))))
    (pss_stop (pss_cons (ps_if (PW.pt (pw_and (pt_cmp o_gt (pe_call (G__law_draw) (hr.mono (by decide)) T.g__law_draw T.k__law_draw passD (pa_cons (pv 0) (pa_cons (pv 1) (pa_cons (pe_int) (pa_nil))))) (pe_int) (nomark _)) (pw_and1 (pt_cmp o_gt (pv 3) (pe_int) (nomark _))))) (pss_one (ps_set (i := 11) sc__law_round.nd rfl (Or.inl rfl) (pe_op o_add (pe_ix ix_any (pe_ix ix_any (pv 8) (pe_call (G__law_draw) (hr.mono (by decide)) T.g__law_draw T.k__law_draw passD (pa_cons (pv 0) (pa_cons (pv 1) (pa_cons (pe_cb c_len T.n_len (by decide +kernel) (pa_cons (pv 8) (pa_nil))) (pa_nil))))) (fun _ _ => rfl)) (pe_int) (fun _ _ => rfl)) (pe_call (G__law_draw) (hr.mono (by decide)) T.g__law_draw T.k__law_draw passD (pa_cons (pv 0) (pa_cons (pv 1) (pa_cons (pe_int) (pa_nil)))))))) (pss_nil))
    (pss_stop (pss_cons (ps_set (i := 12) sc__law_round.nd rfl (Or.inl rfl) (pe_call (G__law_wide) (hr.mono (by decide)) T.g__law_wide T.k__law_wide passD (pa_cons (pv 0) (pa_cons (pv 1) (pa_cons (pe_op o_pow (pe_int) (pe_int)) (pa_nil))))))
    (pss_stop (pss_cons (ps_set (i := 13) sc__law_round.nd rfl (Or.inl rfl) (pe_call (G__law_draw) (hr.mono (by decide)) T.g__law_draw T.k__law_draw passD (pa_cons (pv 0) (pa_cons (pv 1) (pa_cons (pe_int) (pa_nil))))))
    (pss_stop (pss_cons (ps_set (i := 14) sc__law_round.nd rfl (Or.inl rfl) (pe_cmp (o_eq hr.units) (pe_call (G__law_draw) (hr.mono (by decide)) T.g__law_draw T.k__law_draw passD (pa_cons (pv 0) (pa_cons (pv 1) (pa_cons (pe_int) (pa_nil))))) (pe_int) (nomark _)))
    (pss_stop (pss_cons (ps_set (i := 15) sc__law_round.nd rfl (Or.inl rfl) (pe_giv T.D_Summary (pe_mk T.K_Summary G_Summarydd_initdd (hr.mono (by decide)) T.g_Summary passD (pa_cons (pv 3) (pa_cons (pe_ct c_list T.n_list (by decide +kernel) (pa_cons (pv 7) (pa_nil))) (pa_nil))))))
    (pss_stop (pss_cons (ps_asg (pe_methDK (ks := ["equal"]) T.D_Summary.cl T.M_Summary_bounds GK_Summary_bounds_2_equal (hr.mono (by decide)) passD (pv 15) (pa_cons (pv 11) (pa_nil)) (pk_cons (pv 14) (pk_nil))) (pg_tup rfl (pgs_cons (pg_name (i := 16) sc__law_round.nd rfl (Or.inl rfl)) (pgs_cons (pg_name (i := 17) sc__law_round.nd rfl (Or.inl rfl)) (pgs_nil)))))
    (pss_stop (pss_cons (ps_for ownD rfl (pi_seq (pe_lst (pa_cons (pv 8) (pa_cons (pv 9) (pa_nil))))) (pg_name (i := 18) sc__law_round.nd rfl (Or.inl rfl)) (pss_cons (ps_set (i := 19) sc__law_round.nd rfl (Or.inl rfl) (pe_call (G__law_passes) (hr.mono (by decide)) T.g__law_passes T.k__law_passes passD (pa_cons (pv 18) (pa_cons (pv 11) (pa_cons (pv 14) (pa_nil))))))
    (pss_stop (pss_cons (ps_if (pt_not (PW.pt (pw_and (pt_cmp o_le (pe_int) (pv 16) (nomark _)) (pw_and (pt_cmp o_le (pv 16) (pv 19) (nomark _)) (pw_and (pt_cmp o_le (pv 19) (pv 17) (nomark _)) (pw_and1 (pt_cmp o_le (pv 17) (pv 3) (nomark _)))))))) (pss_one (ps_ret (pe_bl))) (pss_nil))
    (pss_stop (pss_cons (ps_if (pt_cmp (o_ne hr.units) (pe_propD T.D_Summary.cl T.P_Summary_total G_Summary_total (hr.mono (by decide)) (pv 15)) (pe_cb (c_sum rfl) T.n_sum (by decide +kernel) (pa_cons (pe_lc (own := [("_law_stretch", 25)]) rfl sc__law_round.nd (pi_seq (pv 18)) (blkOk_by (own := [("_law_stretch", 25)]) (N := ["_law_script", "_law_state", "_law_wide_here", "_law_size_here", "_law_parts", "_law_moved", "_law_ends_here", "_law_counts", "_law_one", "_law_other", "_law_half", "_law_c", "_law_far", "_law_step", "_law_equal", "_law_summary", "_law_least", "_law_greatest", "_law_stretches", "_law_passing_here", "_law_low", "_law_high", "_law_own", "_law_between", "_law_wanted", "_law_stretch"]) (sc := defScope s__law_round) (by decide +kernel)) (fun _ _ _ _ _ => pg_name (i := 25) sc__law_round.nd rfl (Or.inl rfl)) (fun _ _ _ _ _ => pts_nil) (fun _ _ _ _ _ => pe_op o_mulA (pe_ix ix_any (pv 25) (pe_int) (fun _ _ => rfl)) (pe_ix ix_any (pv 25) (pe_int) (fun _ _ => rfl)))) (pa_nil))) (nomark _)) (pss_one (ps_ret (pe_bl))) (pss_nil))
    (pss_stop (pss_one (ps_if (pt_cmp o_gt (pv 3) (pe_int) (nomark _)) (pss_cons (ps_asg (pe_methD T.D_Summary.cl T.M_Summary_kth_bounds G_Summary_kth_bounds (hr.mono (by decide)) passD (pv 15) (pa_cons (pe_op o_mod (pe_ct c_int T.n_int (by decide +kernel) (pa_cons (pv 12) (pa_nil))) (pv 3)) (pa_nil))) (pg_tup rfl (pgs_cons (pg_name (i := 20) sc__law_round.nd rfl (Or.inl rfl)) (pgs_cons (pg_name (i := 21) sc__law_round.nd rfl (Or.inl rfl)) (pgs_nil)))))
    (pss_cons (ps_set (i := 22) sc__law_round.nd rfl (Or.inl rfl) (pe_call (G__law_at_index) (hr.mono (by decide)) T.g__law_at_index T.k__law_at_index passD (pa_cons (pv 18) (pa_cons (pe_op o_mod (pe_ct c_int T.n_int (by decide +kernel) (pa_cons (pv 12) (pa_nil))) (pv 3)) (pa_nil)))))
    (pss_one (ps_if (PW.pt (pw_or (pt_cmp o_lt (pv 22) (pv 20) (nomark _)) (pw_or1 (pt_cmp o_gt (pv 22) (pv 21) (nomark _))))) (pss_one (ps_ret (pe_bl))) (pss_nil))))) (pss_nil))))))))))
    (pss_stop (pss_cons (ps_set (i := 23) sc__law_round.nd rfl (Or.inl rfl) (pe_op o_add (pv 16) (pe_op o_mod (pe_ct c_int T.n_int (by decide +kernel) (pa_cons (pv 12) (pa_nil))) (pe_op o_add (pe_op o_sub (pv 17) (pv 16)) (pe_int)))))
    (pss_stop (pss_cons (ps_for ownD rfl (pi_seq (pe_lst (pa_cons (pv 16) (pa_cons (pv 17) (pa_cons (pv 23) (pa_nil)))))) (pg_name (i := 24) sc__law_round.nd rfl (Or.inl rfl)) (pss_one (ps_if (pt_cmp (o_ne hr.units) (pe_call (G__law_passing) (hr.mono (by decide)) T.g__law_passing T.k__law_passing passD (pa_cons (pe_methDK (ks := ["equal"]) T.D_Summary.cl T.M_Summary_example GK_Summary_example_3_equal (hr.mono (by decide)) passD (pv 15) (pa_cons (pv 11) (pa_cons (pv 24) (pa_nil))) (pk_cons (pv 14) (pk_nil))) (pa_cons (pv 3) (pa_cons (pv 7) (pa_cons (pv 11) (pa_cons (pv 14) (pa_nil))))))) (pv 24) (nomark _)) (pss_one (ps_ret (pe_bl))) (pss_nil))))
    (pss_stop (pss_one (ps_ret (pe_and (pe_call (G__law_refused) (hr.mono (by decide)) T.g__law_refused T.k__law_refused passD (pa_cons (pv 15) (pa_cons (pv 11) (pa_cons (pe_op o_sub (pe_op o_sub (pv 16) (pe_int)) (pv 13)) (pa_cons (pv 14) (pa_nil)))))) (pe_one (pe_call (G__law_refused) (hr.mono (by decide)) T.g__law_refused T.k__law_refused passD (pa_cons (pv 15) (pa_cons (pv 11) (pa_cons (pe_op o_add (pe_op o_add (pv 17) (pe_int)) (pv 13)) (pa_cons (pv 14) (pa_nil)))))))))))))))))))))))))))))))))))))))))))))
theorem ok_law (T : T0 P K mg) {fd : FuncData} (F : FunD K "law" "law" (defArgs s_law) (defBody s_law) (defScope s_law) [] [] (He.fAd K ("law", none)) fd) : FnOk P w K mg base CX0 11 (He.fAd K ("law", none)) fd ["_law_script"] (sp_law K) := by
  have G__law_draw := ok__law_draw (P := P) (w := w) (base := base) T
  have G__law_round := ok__law_round (P := P) (w := w) (base := base) T
  refine mk_law F sc_law (fun vs H Q E h => by
    revert h; intro h; (repeat (first | (obtain ⟨rfl, _⟩ := h; exact rfl) | obtain ⟨_, h⟩ := h))) (t := t_law K) (fun cdv A outer s H E hr => ?_) (fun vs H Q E h => pure_law vs H Q E0 h)
  exact pss_cons (ps_set (i := 1) sc_law.nd rfl (Or.inl rfl) (pe_lst (pa_cons (pe_int) (pa_cons (pe_int) (pa_cons (pe_int) (pa_cons (pe_int) (pa_nil)))))))
    (pss_stop (pss_cons (ps_for PassesOwn.never rfl (pi_rng (by rfl) T.n_range (pa_cons (pe_op o_add (pe_int) (pe_call (G__law_draw) (hr.mono (by decide)) T.g__law_draw T.k__law_draw passL0 (pa_cons (pv 0) (pa_cons (pv 1) (pa_cons (pe_int) (pa_nil)))))) (pa_nil))) (pg_name (i := 2) sc_law.nd rfl (Or.inl rfl)) (pss_one (ps_if (pt_not (pt_of (pe_call (G__law_round) (hr.mono (by decide)) T.g__law_round T.k__law_round passL0 (pa_cons (pv 0) (pa_cons (pv 1) (pa_cons (pe_cmp (o_eq hr.units) (pv 2) (pe_int) (nomark _)) (pa_nil))))))) (pss_one (ps_ret (pe_bl))) (pss_nil))))
    (pss_stop (pss_one (ps_ret (pe_bl))))))
end
theorem hfacts {w : World} {K : Frag} {h : Heap} {mg : Str → Option Value} {f : Addr} (X : K.In h) (G : h.Ns mainGlobals mg) (hla : mg ("law" : Str) = some (.ref f)) (c : SaysX hfa hfx hfn K) :
    ∃ fd : FuncData, (∀ (s : Shared) (v : Value), BindsTo s fd ⟨[v], []⟩ [("_law_script", v)]) ∧ ∀ base : Heap, K.In base → base.Ns mainGlobals mg → FnOk hP w K mg base CX0 11 f fd ["_law_script"] (sp_law K) := by
  have g_AND := He.glo_ok X G (c.fact 0 (f := .glo "AND") rfl)
  have g_BadBitmap := He.glo_ok X G (c.fact 1 (f := .glo "BadBitmap") rfl)
  have g_BadColumn := He.glo_ok X G (c.fact 2 (f := .glo "BadColumn") rfl)
  have g_BadSummary := He.glo_ok X G (c.fact 3 (f := .glo "BadSummary") rfl)
  have g_Bitmap := He.glo_ok X G (c.fact 4 (f := .glo "Bitmap") rfl)
  have g_Column := He.glo_ok X G (c.fact 5 (f := .glo "Column") rfl)
  have g_LESS := He.glo_ok X G (c.fact 6 (f := .glo "LESS") rfl)
  have g_NoSuchRank := He.glo_ok X G (c.fact 7 (f := .glo "NoSuchRank") rfl)
  have g_NoSuchRow := He.glo_ok X G (c.fact 8 (f := .glo "NoSuchRow") rfl)
  have g_OR := He.glo_ok X G (c.fact 9 (f := .glo "OR") rfl)
  have g_OutOfReach := He.glo_ok X G (c.fact 10 (f := .glo "OutOfReach") rfl)
  have g_SizesDiffer := He.glo_ok X G (c.fact 11 (f := .glo "SizesDiffer") rfl)
  have g_Summary := He.glo_ok X G (c.fact 12 (f := .glo "Summary") rfl)
  have g__law_at_index := He.glo_ok X G (c.fact 13 (f := .glo "_law_at_index") rfl)
  have g__law_draw := He.glo_ok X G (c.fact 14 (f := .glo "_law_draw") rfl)
  have g__law_ends := He.glo_ok X G (c.fact 15 (f := .glo "_law_ends") rfl)
  have g__law_in := He.glo_ok X G (c.fact 16 (f := .glo "_law_in") rfl)
  have g__law_is_bitmap := He.glo_ok X G (c.fact 17 (f := .glo "_law_is_bitmap") rfl)
  have g__law_is_number := He.glo_ok X G (c.fact 18 (f := .glo "_law_is_number") rfl)
  have g__law_number_at := He.glo_ok X G (c.fact 19 (f := .glo "_law_number_at") rfl)
  have g__law_numbers := He.glo_ok X G (c.fact 20 (f := .glo "_law_numbers") rfl)
  have g__law_ones := He.glo_ok X G (c.fact 21 (f := .glo "_law_ones") rfl)
  have g__law_passes := He.glo_ok X G (c.fact 22 (f := .glo "_law_passes") rfl)
  have g__law_passing := He.glo_ok X G (c.fact 23 (f := .glo "_law_passing") rfl)
  have g__law_places := He.glo_ok X G (c.fact 24 (f := .glo "_law_places") rfl)
  have g__law_refused := He.glo_ok X G (c.fact 25 (f := .glo "_law_refused") rfl)
  have g__law_rotated := He.glo_ok X G (c.fact 26 (f := .glo "_law_rotated") rfl)
  have g__law_round := He.glo_ok X G (c.fact 27 (f := .glo "_law_round") rfl)
  have g__law_rows_of := He.glo_ok X G (c.fact 28 (f := .glo "_law_rows_of") rfl)
  have g__law_size := He.glo_ok X G (c.fact 29 (f := .glo "_law_size") rfl)
  have g__law_wide := He.glo_ok X G (c.fact 30 (f := .glo "_law_wide") rfl)
  have g_law := He.glo_ok X G (c.fact 31 (f := .glo "law") rfl)
  have g_narrowed := He.glo_ok X G (c.fact 32 (f := .glo "narrowed") rfl)
  have g_next_end := He.glo_ok X G (c.fact 33 (f := .glo "next_end") rfl)
  have g_swept := He.glo_ok X G (c.fact 34 (f := .glo "swept") rfl)
  have g_turned := He.glo_ok X G (c.fact 35 (f := .glo "turned") rfl)
  have g_weight_of := He.glo_ok X G (c.fact 36 (f := .glo "weight_of") rfl)
  have n_abs := He.free_ok X G (c.fact 37 (f := .free "abs") rfl)
  have n_bool := He.free_ok X G (c.fact 38 (f := .free "bool") rfl)
  have n_enumerate := He.free_ok X G (c.fact 39 (f := .free "enumerate") rfl)
  have n_int := He.free_ok X G (c.fact 40 (f := .free "int") rfl)
  have n_isinstance := He.free_ok X G (c.fact 41 (f := .free "isinstance") rfl)
  have n_len := He.free_ok X G (c.fact 42 (f := .free "len") rfl)
  have n_list := He.free_ok X G (c.fact 43 (f := .free "list") rfl)
  have n_max := He.free_ok X G (c.fact 44 (f := .free "max") rfl)
  have n_min := He.free_ok X G (c.fact 45 (f := .free "min") rfl)
  have n_range := He.free_ok X G (c.fact 46 (f := .free "range") rfl)
  have n_sorted := He.free_ok X G (c.fact 47 (f := .free "sorted") rfl)
  have n_sum := He.free_ok X G (c.fact 48 (f := .free "sum") rfl)
  have n_super := He.free_ok X G (c.fact 49 (f := .free "super") rfl)
  have n_tuple := He.free_ok X G (c.fact 50 (f := .free "tuple") rfl)
  have K_Bitmap : Mk K (He.ga K "Bitmap") (He.fAd K ("Bitmap", some "__init__")) := He.mkr_ok (c.fact 51 (f := .mkr "Bitmap") rfl)
  have K_Column : Mk K (He.ga K "Column") (He.fAd K ("Column", some "__init__")) := He.mkr_ok (c.fact 52 (f := .mkr "Column") rfl)
  have K_Summary : Mk K (He.ga K "Summary") (He.fAd K ("Summary", some "__init__")) := He.mkr_ok (c.fact 53 (f := .mkr "Summary") rfl)
  have M_Bitmap_first : Meth K (He.ga K "Bitmap") "first" (He.fAd K ("Bitmap", some "first")) := He.meth_ok (c.fact 54 (f := .meth "Bitmap" "first") rfl)
  have M_Bitmap_nth : Meth K (He.ga K "Bitmap") "nth" (He.fAd K ("Bitmap", some "nth")) := He.meth_ok (c.fact 55 (f := .meth "Bitmap" "nth") rfl)
  have M_Bitmap_paired : Meth K (He.ga K "Bitmap") "paired" (He.fAd K ("Bitmap", some "paired")) := He.meth_ok (c.fact 56 (f := .meth "Bitmap" "paired") rfl)
  have M_Bitmap_rank : Meth K (He.ga K "Bitmap") "rank" (He.fAd K ("Bitmap", some "rank")) := He.meth_ok (c.fact 57 (f := .meth "Bitmap" "rank") rfl)
  have M_Bitmap_runs : Meth K (He.ga K "Bitmap") "runs" (He.fAd K ("Bitmap", some "runs")) := He.meth_ok (c.fact 58 (f := .meth "Bitmap" "runs") rfl)
  have M_Bitmapdd_anddd : Meth K (He.ga K "Bitmap") "__and__" (He.fAd K ("Bitmap", some "__and__")) := He.meth_ok (c.fact 59 (f := .meth "Bitmap" "__and__") rfl)
  have M_Bitmapdd_eqdd : Meth K (He.ga K "Bitmap") "__eq__" (He.fAd K ("Bitmap", some "__eq__")) := He.meth_ok (c.fact 60 (f := .meth "Bitmap" "__eq__") rfl)
  have M_Bitmapdd_ordd : Meth K (He.ga K "Bitmap") "__or__" (He.fAd K ("Bitmap", some "__or__")) := He.meth_ok (c.fact 61 (f := .meth "Bitmap" "__or__") rfl)
  have M_Bitmapdd_subdd : Meth K (He.ga K "Bitmap") "__sub__" (He.fAd K ("Bitmap", some "__sub__")) := He.meth_ok (c.fact 62 (f := .meth "Bitmap" "__sub__") rfl)
  have M_Summary_bounds : Meth K (He.ga K "Summary") "bounds" (He.fAd K ("Summary", some "bounds")) := He.meth_ok (c.fact 63 (f := .meth "Summary" "bounds") rfl)
  have M_Summary_built : Meth K (He.ga K "Summary") "built" (He.fAd K ("Summary", some "built")) := He.meth_ok (c.fact 64 (f := .meth "Summary" "built") rfl)
  have M_Summary_example : Meth K (He.ga K "Summary") "example" (He.fAd K ("Summary", some "example")) := He.meth_ok (c.fact 65 (f := .meth "Summary" "example") rfl)
  have M_Summary_kth_bounds : Meth K (He.ga K "Summary") "kth_bounds" (He.fAd K ("Summary", some "kth_bounds")) := He.meth_ok (c.fact 66 (f := .meth "Summary" "kth_bounds") rfl)
  have M_Summary_outside : Meth K (He.ga K "Summary") "outside" (He.fAd K ("Summary", some "outside")) := He.meth_ok (c.fact 67 (f := .meth "Summary" "outside") rfl)
  have M_Summary_ranges : Meth K (He.ga K "Summary") "ranges" (He.fAd K ("Summary", some "ranges")) := He.meth_ok (c.fact 68 (f := .meth "Summary" "ranges") rfl)
  have M_Summary_reach : Meth K (He.ga K "Summary") "reach" (He.fAd K ("Summary", some "reach")) := He.meth_ok (c.fact 69 (f := .meth "Summary" "reach") rfl)
  have M_Summary_steps : Meth K (He.ga K "Summary") "steps" (He.fAd K ("Summary", some "steps")) := He.meth_ok (c.fact 70 (f := .meth "Summary" "steps") rfl)
  have C_Bitmap : CF K "Bitmap" ["ends", "size"] := cfB_ok (c.more 0 (f := cfB "Bitmap" ["ends", "size"]) rfl)
  have C_Column : CF K "Column" ["presence", "size", "slices", "width"] := cfB_ok (c.more 1 (f := cfB "Column" ["presence", "size", "slices", "width"]) rfl)
  have D_Summary : DF K "Summary" [] ["many", "counts", "half"] := dfB_ok (c.more 2 (f := dfB "Summary" [] ["many", "counts", "half"]) rfl)
  have E_Bitmapdd_initdd_0 : EmpT K (V.ref (He.dflAt ("Bitmap", some "__init__") 0 K)) := empB_ok (c.more 3 (f := fun K => empB K (V.ref (He.dflAt ("Bitmap", some "__init__") 0 K))) rfl)
  have P_Bitmap_ones : PropF K "Bitmap" "ones" (uA K "Bitmap" "ones") := propB_ok (c.more 4 (f := propB "Bitmap" "ones") rfl)
  have P_Summary_total : PropF K "Summary" "total" (uA K "Summary" "total") := propB_ok (c.more 5 (f := propB "Summary" "total") rfl)
  have R_BadBitmap : RsF K "BadBitmap" := rsB_ok (c.more 6 (f := rsB "BadBitmap") rfl)
  have R_BadColumn : RsF K "BadColumn" := rsB_ok (c.more 7 (f := rsB "BadColumn") rfl)
  have R_BadSummary : RsF K "BadSummary" := rsB_ok (c.more 8 (f := rsB "BadSummary") rfl)
  have R_SizesDiffer : RsF K "SizesDiffer" := rsB_ok (c.more 9 (f := rsB "SizesDiffer") rfl)
  have St_Bitmap_full : StF K "Bitmap" "full" := statB_ok (c.more 10 (f := statB "Bitmap" "full") rfl)
  have St_Bitmap_span : StF K "Bitmap" "span" := statB_ok (c.more 11 (f := statB "Bitmap" "span") rfl)
  have U_AND : TupG K "AND" [V.int 0, V.int 0, V.int 0, V.int 1] := tupG_ok (vs := [.int 0, .int 0, .int 0, .int 1]) (c.more 12 (f := fun K => He.tupB K "AND" [.int 0, .int 0, .int 0, .int 1]) rfl)
  have U_LESS : TupG K "LESS" [V.int 0, V.int 0, V.int 1, V.int 0] := tupG_ok (vs := [.int 0, .int 0, .int 1, .int 0]) (c.more 13 (f := fun K => He.tupB K "LESS" [.int 0, .int 0, .int 1, .int 0]) rfl)
  have U_OR : TupG K "OR" [V.int 0, V.int 1, V.int 1, V.int 1] := tupG_ok (vs := [.int 0, .int 1, .int 1, .int 1]) (c.more 14 (f := fun K => He.tupB K "OR" [.int 0, .int 1, .int 1, .int 1]) rfl)
  have X_BadBitmap : ExF K "BadBitmap" ["SliceError"] := exfB_ok (c.more 15 (f := exfB "BadBitmap" ["SliceError"]) rfl)
  have X_BadColumn : ExF K "BadColumn" ["SliceError"] := exfB_ok (c.more 16 (f := exfB "BadColumn" ["SliceError"]) rfl)
  have X_BadSummary : ExF K "BadSummary" ["SliceError"] := exfB_ok (c.more 17 (f := exfB "BadSummary" ["SliceError"]) rfl)
  have X_NoSuchRank : ExF K "NoSuchRank" ["SliceError"] := exfB_ok (c.more 18 (f := exfB "NoSuchRank" ["SliceError"]) rfl)
  have X_NoSuchRow : ExF K "NoSuchRow" ["SliceError"] := exfB_ok (c.more 19 (f := exfB "NoSuchRow" ["SliceError"]) rfl)
  have X_OutOfReach : ExF K "OutOfReach" ["SliceError"] := exfB_ok (c.more 20 (f := exfB "OutOfReach" ["SliceError"]) rfl)
  have X_SizesDiffer : ExF K "SizesDiffer" ["SliceError"] := exfB_ok (c.more 21 (f := exfB "SizesDiffer" ["SliceError"]) rfl)
  have Xf_OutOfReach_number : XfF K "OutOfReach" "number" := xffB_ok (c.more 22 (f := xffB "OutOfReach" "number") rfl)
  have Xi_NoSuchRank : ∃ fd, XiF hP K "NoSuchRank" "number" "__init__" "NoSuchRank.__init__" (defArgs s_NoSuchRankdd_initdd) (defBody s_NoSuchRankdd_initdd) (defScope s_NoSuchRankdd_initdd) (He.fAd K ("NoSuchRank", some "__init__")) fd := xi_of (c.fnv 48 (d := ⟨fun K => He.fAd K ("NoSuchRank", some "__init__"), "__init__", "NoSuchRank.__init__", defArgs s_NoSuchRankdd_initdd, defBody s_NoSuchRankdd_initdd, defScope s_NoSuchRankdd_initdd, [], [], ["__class__"]⟩) rfl) (c.more 23 (f := xiB hP "NoSuchRank" "number") rfl)
  have Xi_NoSuchRow : ∃ fd, XiF hP K "NoSuchRow" "row" "__init__" "NoSuchRow.__init__" (defArgs s_NoSuchRowdd_initdd) (defBody s_NoSuchRowdd_initdd) (defScope s_NoSuchRowdd_initdd) (He.fAd K ("NoSuchRow", some "__init__")) fd := xi_of (c.fnv 49 (d := ⟨fun K => He.fAd K ("NoSuchRow", some "__init__"), "__init__", "NoSuchRow.__init__", defArgs s_NoSuchRowdd_initdd, defBody s_NoSuchRowdd_initdd, defScope s_NoSuchRowdd_initdd, [], [], ["__class__"]⟩) rfl) (c.more 24 (f := xiB hP "NoSuchRow" "row") rfl)
  have Xi_OutOfReach : ∃ fd, XiF hP K "OutOfReach" "number" "__init__" "OutOfReach.__init__" (defArgs s_OutOfReachdd_initdd) (defBody s_OutOfReachdd_initdd) (defScope s_OutOfReachdd_initdd) (He.fAd K ("OutOfReach", some "__init__")) fd := xi_of (c.fnv 50 (d := ⟨fun K => He.fAd K ("OutOfReach", some "__init__"), "__init__", "OutOfReach.__init__", defArgs s_OutOfReachdd_initdd, defBody s_OutOfReachdd_initdd, defScope s_OutOfReachdd_initdd, [], [], ["__class__"]⟩) rfl) (c.more 25 (f := xiB hP "OutOfReach" "number") rfl)
  have F__law_draw := c.def_ 0 rfl
  have F__law_wide := c.def_ 1 rfl
  have F__law_size := c.def_ 2 rfl
  have F__law_ends := c.def_ 3 rfl
  have F__law_places := c.def_ 4 rfl
  have F__law_in := c.def_ 5 rfl
  have F__law_rotated := c.def_ 6 rfl
  have F__law_ones := c.def_ 7 rfl
  have F__law_rows_of := c.def_ 8 rfl
  have F__law_number_at := c.def_ 9 rfl
  have F__law_numbers := c.def_ 10 rfl
  have F_Summarydd_initdd := c.def_ 11 rfl
  have F_Summary_outside := c.def_ 12 rfl
  have F_Summary_steps := c.def_ 13 rfl
  have F_Summary_ranges := c.def_ 14 rfl
  have F_Summary_bounds := c.def_ 15 rfl
  have F__law_passes := c.def_ 16 rfl
  have F_weight_of := c.def_ 17 rfl
  have F_Summary_total := c.def_ 18 rfl
  have F_Summary_reach := c.def_ 19 rfl
  have F_Summary_kth_bounds := c.def_ 20 rfl
  have F__law_at_index := c.def_ 21 rfl
  have F_turned := c.def_ 22 rfl
  have F_Bitmapdd_initdd := c.def_ 23 rfl
  have F_Bitmap_full := c.def_ 24 rfl
  have F_Bitmap_rank := c.def_ 25 rfl
  have F_Bitmap_ones := c.def_ 26 rfl
  have F_Bitmap_runs := c.def_ 27 rfl
  have F_Bitmap_nth := c.def_ 28 rfl
  have F_Bitmap_span := c.def_ 29 rfl
  have F_next_end := c.def_ 30 rfl
  have F_swept := c.def_ 31 rfl
  have F_Bitmap_paired := c.def_ 32 rfl
  have F_Bitmapdd_anddd := c.def_ 33 rfl
  have F_Bitmap_first := c.def_ 34 rfl
  have F_Bitmapdd_subdd := c.def_ 35 rfl
  have F_Bitmapdd_ordd := c.def_ 36 rfl
  have F_Bitmapdd_eqdd := c.def_ 37 rfl
  have F_narrowed := c.def_ 38 rfl
  have F_Columndd_initdd := c.def_ 39 rfl
  have F_Summary_built := c.def_ 40 rfl
  have F_Summary_example := c.def_ 41 rfl
  have F__law_is_number := c.def_ 42 rfl
  have F__law_is_bitmap := c.def_ 43 rfl
  have F__law_passing := c.def_ 44 rfl
  have F__law_refused := c.def_ 45 rfl
  have F__law_round := c.def_ 46 rfl
  have F_law := c.def_ 47 rfl
  have T : T0 hP K mg := ⟨n_abs, n_bool, n_enumerate, n_int, n_isinstance, n_len, n_list, n_max, n_min, n_range, n_sorted, n_sum, n_super, n_tuple, g_AND, g_BadBitmap, g_BadColumn, g_BadSummary, g_Bitmap, g_Column, g_LESS, g_NoSuchRank, g_NoSuchRow, g_OR, g_OutOfReach, g_SizesDiffer, g_Summary, g__law_at_index, g__law_draw, g__law_ends, g__law_in, g__law_is_bitmap, g__law_is_number, g__law_number_at, g__law_numbers, g__law_ones, g__law_passes, g__law_passing, g__law_places, g__law_refused, g__law_rotated, g__law_round, g__law_rows_of, g__law_size, g__law_wide, g_law, g_narrowed, g_next_end, g_swept, g_turned, g_weight_of, F__law_draw, (let ⟨_, F⟩ := F__law_draw; F.kp), F__law_wide, (let ⟨_, F⟩ := F__law_wide; F.kp), F__law_size, (let ⟨_, F⟩ := F__law_size; F.kp), F__law_ends, (let ⟨_, F⟩ := F__law_ends; F.kp), F__law_places, (let ⟨_, F⟩ := F__law_places; F.kp), F__law_in, (let ⟨_, F⟩ := F__law_in; F.kp), F__law_rotated, (let ⟨_, F⟩ := F__law_rotated; F.kp), F__law_ones, (let ⟨_, F⟩ := F__law_ones; F.kp), F__law_rows_of, (let ⟨_, F⟩ := F__law_rows_of; F.kp), F__law_number_at, (let ⟨_, F⟩ := F__law_number_at; F.kp), F__law_numbers, (let ⟨_, F⟩ := F__law_numbers; F.kp), F_Summarydd_initdd, (let ⟨_, F⟩ := F_Summarydd_initdd; F.kp), F_Summary_outside, (let ⟨_, F⟩ := F_Summary_outside; F.kp), F_Summary_steps, (let ⟨_, F⟩ := F_Summary_steps; F.kp), F_Summary_ranges, (let ⟨_, F⟩ := F_Summary_ranges; F.kp), F_Summary_bounds, (let ⟨_, F⟩ := F_Summary_bounds; F.kp), F__law_passes, (let ⟨_, F⟩ := F__law_passes; F.kp), F_weight_of, (let ⟨_, F⟩ := F_weight_of; F.kp), F_Summary_total, (let ⟨_, F⟩ := F_Summary_total; F.kp), F_Summary_reach, (let ⟨_, F⟩ := F_Summary_reach; F.kp), F_Summary_kth_bounds, (let ⟨_, F⟩ := F_Summary_kth_bounds; F.kp), F__law_at_index, (let ⟨_, F⟩ := F__law_at_index; F.kp), F_turned, (let ⟨_, F⟩ := F_turned; F.kp), F_Bitmapdd_initdd, (let ⟨_, F⟩ := F_Bitmapdd_initdd; F.kp), F_Bitmap_full, (let ⟨_, F⟩ := F_Bitmap_full; F.kp), F_Bitmap_rank, (let ⟨_, F⟩ := F_Bitmap_rank; F.kp), F_Bitmap_ones, (let ⟨_, F⟩ := F_Bitmap_ones; F.kp), F_Bitmap_runs, (let ⟨_, F⟩ := F_Bitmap_runs; F.kp), F_Bitmap_nth, (let ⟨_, F⟩ := F_Bitmap_nth; F.kp), F_Bitmap_span, (let ⟨_, F⟩ := F_Bitmap_span; F.kp), F_next_end, (let ⟨_, F⟩ := F_next_end; F.kp), F_swept, (let ⟨_, F⟩ := F_swept; F.kp), F_Bitmap_paired, (let ⟨_, F⟩ := F_Bitmap_paired; F.kp), F_Bitmapdd_anddd, (let ⟨_, F⟩ := F_Bitmapdd_anddd; F.kp), F_Bitmap_first, (let ⟨_, F⟩ := F_Bitmap_first; F.kp), F_Bitmapdd_subdd, (let ⟨_, F⟩ := F_Bitmapdd_subdd; F.kp), F_Bitmapdd_ordd, (let ⟨_, F⟩ := F_Bitmapdd_ordd; F.kp), F_Bitmapdd_eqdd, (let ⟨_, F⟩ := F_Bitmapdd_eqdd; F.kp), F_narrowed, (let ⟨_, F⟩ := F_narrowed; F.kp), F_Columndd_initdd, (let ⟨_, F⟩ := F_Columndd_initdd; F.kp), F_Summary_built, (let ⟨_, F⟩ := F_Summary_built; F.kp), F_Summary_example, (let ⟨_, F⟩ := F_Summary_example; F.kp), F__law_is_number, (let ⟨_, F⟩ := F__law_is_number; F.kp), F__law_is_bitmap, (let ⟨_, F⟩ := F__law_is_bitmap; F.kp), F__law_passing, (let ⟨_, F⟩ := F__law_passing; F.kp), F__law_refused, (let ⟨_, F⟩ := F__law_refused; F.kp), F__law_round, (let ⟨_, F⟩ := F__law_round; F.kp), F_law, (let ⟨_, F⟩ := F_law; F.kp), C_Bitmap, C_Column, D_Summary, E_Bitmapdd_initdd_0, K_Bitmap, K_Column, K_Summary, M_Bitmap_first, M_Bitmap_nth, M_Bitmap_paired, M_Bitmap_rank, M_Bitmap_runs, M_Bitmapdd_anddd, M_Bitmapdd_eqdd, M_Bitmapdd_ordd, M_Bitmapdd_subdd, M_Summary_bounds, M_Summary_built, M_Summary_example, M_Summary_kth_bounds, M_Summary_outside, M_Summary_ranges, M_Summary_reach, M_Summary_steps, P_Bitmap_ones, P_Summary_total, R_BadBitmap, R_BadColumn, R_BadSummary, R_SizesDiffer, St_Bitmap_full, St_Bitmap_span, U_AND, U_LESS, U_OR, X_BadBitmap, X_BadColumn, X_BadSummary, X_NoSuchRank, X_NoSuchRow, X_OutOfReach, X_SizesDiffer, Xf_OutOfReach_number, Xi_NoSuchRank, Xi_NoSuchRow, Xi_OutOfReach⟩
  obtain ⟨fd, F⟩ := F_law
  have e := hla.symm.trans g_law
  cases e
  have b := FunD.bindsA (ps := ["_law_script"]) F fun _ _ _ _ _ _ us hl => match us, hl with | [_], _ => rfl
  exact ⟨fd, fun s v => b s [v] rfl, fun base _ _ => ok_law T F⟩
end S
theorem PySem.Challenge.cw_slicedcolumns_k35_whole_counts_settle_holds : PySem.Challenge.rw_slicedcolumns_k35_whole_counts_settle.Holds :=
  hopenS fun _ _ _ _ _ X G z c => S.hfacts X G z c
