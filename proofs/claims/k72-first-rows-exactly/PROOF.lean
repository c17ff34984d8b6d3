import PyProof.Rows.All
import Wide.All
import OpenK.AllK
import Wide.FinOn
import HandS.ForMost
import HandS.ForExc
import HandS.TupAny
import HandS.IsInst
import HandS.Conv
import HandS.Defaults
import HandS.WideBits
import HandS.SortInts
import HandS.Slots
import HandS.Flow
import HandS.SlotsOwn
import HandS.Exc
import HandS.ExcOwn
import HandS.CallSlots
import HandS.ExcInit
import HandS.ExcIs
import KE.KExcIs
import KE.KExcSuper
import HandS.Head0
import HandS.Head1
import HandS.Head2
import HandS.HeadEnd
import HandS.HeadHook1
import HandS.HeadHook2
import KE.GoesEnum
import HandS.ExcField
import HandS.WideBits
import PyProof.StrReplace2
import KE.KOpsOwn
import HandS.Iter
import HandS.OwnEq
import HandS.Defaults
import HandS.MakeKwOnly
import HandS.TryOnly
import KE.SortCalls
import HandS.GenList
import HandS.Zip
import HandS.Strs
import HandS.TupSets
import PyProof.Rows.SetFrom
import PyProof.AutoSeq1
import PyProof.Rows.ChunkEnd
import HandS.IterNext
import HandS.OwnIter
import PyProof.NeKinds
import KE.SortData
import HandS.Deep
import HandS.Wide
import HandS.TryMany
import PyProof.WalksMore
import HandS.Text
import HandS.SortKw
import KE.DatumOrd
import HandS.MakeKw
import HandS.Dict
import HandS.DictComp
import HandS.More
import HandS.Small
import HandS.Star
import HandS.Conv
import KE.KDictPairs
import OpenK.KOps
import HandS.Nested
import KE.KSuper
import HandS.Style
import KE.OsArith
import KE.BitLaws
import KE.KDictDisplayH
import HandS.SetTxt0
import HandS.SetFor
import KE.KDictCopyH
import HandS.SetKeys
import HandS.TupLen
import HandS.DictTup
import HandS.Rev
import KE.GoesZip
import KE.GoesMore
import KE.KCallOwn
import PyProof.SeqIndex
import KE.DataCmp
import KE.KOwnCellsLaws
import PySem.Challenge.RW_slicedcolumns_k72_whole_first_rows_exact
set_option Elab.async false
set_option linter.all false
set_option maxRecDepth 100000
set_option maxHeartbeats 4000000
namespace S
open PySem PySem.Spec PyProof.Rows L2
abbrev Frag := PySem.W.Frag
def nth : L2.St → Nat → Option V
  | [], _ => none
  | x :: _, 0 => x
  | _ :: r, n + 1 => nth r n
end S
namespace S
open PySem PySem.Spec PyProof.Rows L2
def nmB (K : Frag) (y : Str) : Bool := match PySem.W.clsIn K (He.ga K y) with
  | some cd => decide (cd.name = y)
  | none => false
def mfB (K : Frag) (x : Str) (ups : List Str) (tys : List String) : Bool := (match PySem.W.clsIn K (He.ga K x) with
  | some cd => decide (cd.name = x) && decide (cd.mro = (x :: ups).map (fun y => Value.ref (He.ga K y)) ++ tys.map Value.type)
  | none => false) && (ups.all (nmB K) && decide (PySem.W.typeIn K (.ref (He.ga K x)) = some (.type "type")))
def sclsB (K : Frag) (C : Addr) : Bool := PySem.W.plainGet K C Str.empty && (PySem.W.isClsIn K C && (PySem.W.plainOver K C && He.eqO (PySem.W.findIn K (.ref C) "__setattr__") (some (some (.builtin "object.__setattr__")))))
def sisiB (K : Frag) (C : Addr) : Bool := He.eqO (PySem.W.findIn K (.ref C) "__class__") (some (some (.builtin "object.__class__"))) && (He.eqO (PySem.W.specialIn K (.builtin "object.__class__") "__get__") (some (some (.builtin "getset_descriptor.__get__"))) &&
  (decide (PySem.W.takesIn K (.builtin "object.__class__") = some true) && decide (PySem.W.mroIn K C (.type "object") = some true)))
def slotB (K : Frag) (C : Addr) (f : Str) (p : Addr) (i : Nat) : Bool := He.eqO (PySem.W.findIn K (.ref C) f) (some (some (.ref p))) && (He.eqO (PySem.W.specialIn K (.ref p) "__get__") (some (some (.builtin "member_descriptor.__get__"))) &&
  (decide (PySem.W.takesIn K (.ref p) = some true) && (decide (PySem.W.typeIn K (.ref p) = some (.type "member_descriptor")) && (decide (PySem.W.slotIn K p C = some i) && decide (i < 1000)))))
def slotsB (K : Frag) (C : Addr) : List Str → Nat → Bool
  | [], _ => true
  | f :: r, i => slotB K C f (He.ma K C f) i && slotsB K C r (i + 1)
def cfB (x : Str) (fs : List Str) (K : Frag) : Bool := mfB K x [] ["object"] && (sclsB K (He.ga K x) && (sisiB K (He.ga K x) && slotsB K (He.ga K x) fs 0))
def veTys : List String := ["ValueError", "Exception", "BaseException", "object"]
def excB (K : Frag) (D : Addr) : Bool := He.eqO (PySem.W.findIn K (.ref D) "__getattribute__") (some (some (.builtin "BaseException.__getattribute__"))) && (He.eqO (PySem.W.findIn K (.ref D) "__getattr__") (some none) && (decide (PySem.W.subIn K (.ref D) (.type "BaseException") = some true) &&
  (PySem.W.hasDictIn K D && (He.eqO (PySem.W.findIn K (.ref D) "__class__") (some (some (.builtin "object.__class__"))) && (He.eqO (PySem.W.specialIn K (.builtin "object.__class__") "__get__") (some (some (.builtin "getset_descriptor.__get__"))) &&
  (decide (PySem.W.takesIn K (.builtin "object.__class__") = some true) && decide (PySem.W.mroIn K D (.type "object") = some true)))))))
def exfB (x : Str) (ups : List Str) (K : Frag) : Bool := mfB K x ups veTys && excB K (He.ga K x)
def rsB (x : Str) (K : Frag) : Bool := (He.Fa.exc x).ok K
def empA (K : Frag) (a : Addr) : Bool := match K.lookup a with
  | some ⟨.type c, _, .seq its _, _⟩ => decide (c = "tuple") && decide (its = #[])
  | _ => false
def empB (K : Frag) (v : V) : Bool := match v with
  | .ref a => empA K a
  | _ => false
def uA (K : Frag) (c m : Str) : Addr := match PySem.W.recIn K (He.ma K (He.ga K c) m) "property" with
  | some (.ref g :: _) => g
  | _ => (match PySem.W.recIn K (He.ma K (He.ga K c) m) "staticmethod" with
    | some (.ref g :: _) => g
    | _ => 0)
def propB (c f : Str) (K : Frag) : Bool := He.eqO (PySem.W.findIn K (.ref (He.ga K c)) f) (some (some (.ref (He.ma K (He.ga K c) f)))) && (He.eqO (PySem.W.specialIn K (.ref (He.ma K (He.ga K c) f)) "__get__") (some (some (.builtin "property.__get__"))) &&
  (decide (PySem.W.takesIn K (.ref (He.ma K (He.ga K c) f)) = some true) && (match PySem.W.recIn K (He.ma K (He.ga K c) f) "property" with
    | some (.ref g :: _) => decide (g = uA K c f)
    | _ => false)))
structure DfX where
  ad : Frag → Addr
  name : Str
  qual : Str
  params : Arguments
  body : List Stmt
  scope : Scope
  dfl : List He.Dv := []
  kwd : List (Str × He.Dv) := []
  clo : List Str := []
def fnX (K : Frag) (a : Addr) : He.FnW := match K.lookup a with
  | some ⟨_, _, .func fd, _⟩ => some (fd.name, fd.qualname, fd.params, fd.body, fd.scope, fd.globals, fd.closure.map (fun c => (c.1, (0 : Addr))), fd.builtins)
  | _ => none
def DfX.val (d : DfX) : He.FnW := some (d.name, d.qual, d.params, .stmts d.body, d.scope, mainGlobals, d.clo.map (fun n => (n, (0 : Addr))), builtinsNs)
def DfX.dvs (K : Frag) (d : DfX) : List V := d.dfl.map (He.Dv.v K)
def DfX.kws (K : Frag) (d : DfX) : List (Str × V) := d.kwd.map fun q => (q.1, q.2.v K)
def DfX.ok (K : Frag) (d : DfX) : Bool := PySem.W.keepIn K (.ref (d.ad K)) && (match K.lookup (d.ad K) with
  | some ⟨_, _, .func fd, _⟩ => PySem.W.codeIn K fd.code d.qual && (He.dflB K fd.defaults (d.dvs K) && He.kwdB K fd.kwdefaults (d.kws K))
  | _ => false)
abbrev AlX : Type := Bool × List He.FnW
def obsK (fa : List He.Fa) (fx : List (Frag → Bool)) (fn : List DfX) (K : Frag) : AlX := ((fa.all fun f => f.ok K) && ((fx.all fun f => f K) && fn.all fun d => d.ok K), fn.map fun d => fnX K (d.ad K))
def valX (fn : List DfX) : AlX := (true, fn.map DfX.val)
def SaysX (fa : List He.Fa) (fx : List (Frag → Bool)) (fn : List DfX) (K : Frag) : Prop := obsK fa fx fn K = valX fn
end S
namespace S
open PySem PySem.Spec PyProof.Rows L2
def statB (c m : Str) (K : Frag) : Bool := PySem.W.readsIn K (He.ga K c) (.type "type") && (He.eqO (PySem.W.specialIn K (.ref (He.ga K c)) "__getattribute__") (some (some (.builtin "type.__getattribute__"))) &&
  ((match PySem.W.findCls K (.ref (He.ga K c)) (.type "type") m with
    | some (.get (.builtin g) (.ref p) .none (.ref D)) => decide (g = "staticmethod.__get__") && (decide (p = He.ma K (He.ga K c) m) && decide (D = He.ga K c))
    | _ => false) && ((match PySem.W.recIn K (He.ma K (He.ga K c) m) "staticmethod" with
    | some (.ref g :: _) => decide (g = uA K c m)
    | _ => false) && PySem.W.keepIn K (.ref (uA K c m)))))
end S
namespace S
open PySem PySem.Spec PyProof.Rows L2
def oexB (c : Str) (K : Frag) : Bool := (match K.lookup (He.ga K c) with
  | some ⟨.type "type", _, .cls cd, sl⟩ => (match cd.mro, sl.toList with
    | .ref C' :: bm, [_, _, _, _, some (.builtin n), _] => C' == He.ga K c && n == "ValueError.__new__" && !cd.hasDel && cd.hasDict && PySem.HandSPX.refsVE bm
    | _, _ => false)
  | _ => false) && (He.eqO (PySem.W.findIn K (.ref (He.ga K c)) "__setattr__") (some (some (.builtin "object.__setattr__"))) && (decide (PySem.W.subIn K (.ref (He.ga K c)) (.type "BaseException") = some true) &&
    (decide (PySem.W.typeIn K (.ref (He.ga K c)) = some (.type "type")) && PySem.W.keepIn K (.ref (He.ga K c)))))
def cellTo (K : Frag) (cc C : Addr) : Bool := match K.lookup cc with
  | some ⟨_, _, .cell (some (.ref D)), _⟩ => decide (D = C)
  | _ => false
def codeFile (P : Program) (K : Frag) (cda : Addr) : Bool := match K.lookup cda with
  | some ⟨_, _, .fields vs, _⟩ => (match (vs[2]? : Option Value) with
    | some (.str file _) => ((P.main.file : Str) == file)
    | _ => false)
  | _ => false
def cloB (P : Program) (K : Frag) (C : Addr) (code : Value) (clo : List (Str × Addr)) : Bool := match code, clo with
  | .ref cda, [(_, cc)] => cellTo K cc C && codeFile P K cda
  | _, _ => false
def fnB (P : Program) (K : Frag) (C fI : Addr) : Bool := match K.lookup fI with
  | some ⟨_, _, .func fd, _⟩ => PySem.W.codeIn K fd.code fd.qualname && (He.dflB K fd.defaults [] && cloB P K C fd.code fd.closure)
  | _ => false
def xiB (P : Program) (c fld : Str) (K : Frag) : Bool := fnB P K (He.ga K c) (He.fAd K (c, some "__init__")) && (decide (PySem.W.mroIn K (He.ga K c) (.ref (He.ga K c)) = some true) && (He.eqO (PySem.W.ks_superIn K (He.ga K c) (He.ga K c) "__init__") (some (some (.builtin "ValueError.__init__"))) &&
    (decide (PySem.W.subIn K (.ref (He.ga K c)) (.type "ValueError") = some true) && (decide (PySem.W.nsIn K cStatics "thirdparty.any" = some none) && (oexB c K && (decide (PySem.W.findIn K (.ref (He.ga K c)) fld = some none) &&
    (He.eqO (PySem.W.findIn K (.ref (He.ga K c)) "__init__") (some (some (.ref (He.fAd K (c, some "__init__"))))) && (decide (PySem.W.typeIn K (.ref (He.fAd K (c, some "__init__"))) = some (.type "function")) && !(P.main.scope.names.lookup ("super" : Str)).isSome))))))))
end S
namespace S
open PySem PySem.Spec PyProof.Rows L2
def nsG (g : Addr → Option Obj) (ns : Addr) (x : Str) : List Addr := match g ns with
  | some ⟨_, _, .dict es _, _⟩ => (match es.toList.find? (·.key.isStr x) with
    | some e => He.refV e.val
    | none => [])
  | _ => []
def rfY (o : Obj) : List Addr := match o.data with
  | .cls cd => [cd.ns]
  | .func fd => He.refV fd.code ++ (He.refV fd.defaults ++ (He.refV fd.kwdefaults ++ fd.closure.map (·.2)))
  | .dict es _ => es.toList.flatMap fun e => He.refV e.val
  | .seq its _ => its.toList.flatMap He.refV
  | .fields vs => (match o.cls == .type "code" with
    | true => []
    | false => vs.toList.flatMap He.refV)
  | _ => []
def stepY (g : Addr → Option Obj) (as : List Addr) : List Addr := as.flatMap fun a => match g a with
  | some o => rfY o
  | none => []
def lvY (g : Addr → Option Obj) : Nat → List Addr → List Addr
  | 0, as => as
  | n + 1, as => as ++ lvY g n (stepY g as)
def asY (names : List Str) (g : Addr → Option Obj) : List Addr := mainGlobals :: cStatics :: lvY g 4 (names.flatMap (nsG g mainGlobals))
def obsYG (names : List Str) (fa : List He.Fa) (fx : List (Frag → Bool)) (fn : List DfX) (g : Addr → Option Obj) : AlX := obsK fa fx fn (He.frG g (asY names g))
def hookY (names : List Str) (fa : List He.Fa) (fx : List (Frag → Bool)) (fn : List DfX) : PySem.W.Hook where
  α := AlX
  obs := fun s => obsYG names fa fx fn s.heap.get?
  val := fun _ => valX fn
  says := fun _ h => ∃ K : Frag, K.In h ∧ SaysX fa fx fn K
  of := fun _ _ e => ⟨_, He.frG_in, e⟩
  keeps := fun _ _ _ ⟨K, hK, c⟩ k => ⟨K, PySem.W.Frag.In.keeps hK k, c⟩
theorem obsYG_eq {names : List Str} {fa : List He.Fa} {fx : List (Frag → Bool)} {fn : List DfX} {g : Addr → Option Obj} {s : Shared} (h : ∀ a, g a = s.heap.get? a) : obsYG names fa fx fn g = (hookY names fa fx fn).obs s := by
  have e : g = s.heap.get? := funext h
  rw [e] <;> rfl
theorem run_parts {σ β : Type} {o : Option σ} {l : σ → Bool} {g : σ → β} {v2 : β} {K : σ → Frag} {fa : List He.Fa} {fx : List (Frag → Bool)} {fn : List DfX} {ob : σ → AlX} (n m : Nat) (hob : ∀ s, ob s = obsK fa fx fn (K s)) (h1 : o.map (fun s => (l s, g s)) = some (true, v2))
    (h3 : o.map (fun s => fa.all fun f => f.ok (K s)) = some true) (h4 : o.map (fun s => fx.all fun f => f (K s)) = some true) (h5 : o.map (fun s => (fn.take n).all fun d => d.ok (K s)) = some true) (h6 : o.map (fun s => ((fn.drop n).take m).all fun d => d.ok (K s)) = some true)
    (h7 : o.map (fun s => ((fn.drop n).drop m).all fun d => d.ok (K s)) = some true) (h8 : o.map (fun s => fn.map fun d => fnX (K s) (d.ad (K s))) = some (fn.map DfX.val)) : o.map (fun s => (l s, g s, ob s)) = some (true, v2, valX fn) := by
  cases o with
  | none => cases h1
  | some s =>
    have e1 : (l s, g s) = (true, v2) := Option.some.inj h1
    obtain ⟨e3, e4⟩ := Prod.mk.inj e1
    have a3 : (fa.all fun f => f.ok (K s)) = true := Option.some.inj h3
    have a4 : (fx.all fun f => f (K s)) = true := Option.some.inj h4
    have a5 : ((fn.take n).all fun d => d.ok (K s)) = true := Option.some.inj h5
    have a6 : (((fn.drop n).take m).all fun d => d.ok (K s)) = true := Option.some.inj h6
    have a7 : (((fn.drop n).drop m).all fun d => d.ok (K s)) = true := Option.some.inj h7
    have a8 : (fn.map fun d => fnX (K s) (d.ad (K s))) = fn.map DfX.val := Option.some.inj h8
    have b : (fn.all fun d => d.ok (K s)) = true := by
      rw [← List.take_append_drop n fn, List.all_append, a5, ← List.take_append_drop m (fn.drop n), List.all_append, a6, a7] <;> rfl
    show some (l s, g s, ob s) = _
    rw [e3, e4, hob, obsK, a3, a4, b, a8]
    rfl
end S
namespace S
open PySem PySem.Spec PyProof.Rows L2
def dfB (x : Str) (ups fs : List Str) (K : Frag) : Bool := mfB K x ups ["object"] && ((He.Fa.cls x).ok K && (He.eqO (PySem.W.findIn K (.ref (He.ga K x)) "__class__") (some (some (.builtin "object.__class__"))) && (He.eqO (PySem.W.specialIn K (.builtin "object.__class__") "__get__") (some (some (.builtin "getset_descriptor.__get__"))) &&
  (decide (PySem.W.takesIn K (.builtin "object.__class__") = some true) && (decide (PySem.W.mroIn K (He.ga K x) (.type "object") = some true) && fs.all fun f => He.eqO (PySem.W.findIn K (.ref (He.ga K x)) f) (some none))))))
end S
namespace S
open PySem PySem.Spec PyProof.Rows L2 GenW


end S
namespace S
open PySem PySem.Spec PyProof.Rows L2
def xiB2 (P : Program) (c fld fld2 : Str) (K : Frag) : Bool := fnB P K (He.ga K c) (He.fAd K (c, some "__init__")) && (decide (PySem.W.mroIn K (He.ga K c) (.ref (He.ga K c)) = some true) && (He.eqO (PySem.W.ks_superIn K (He.ga K c) (He.ga K c) "__init__") (some (some (.builtin "ValueError.__init__"))) &&
    (decide (PySem.W.subIn K (.ref (He.ga K c)) (.type "ValueError") = some true) && (decide (PySem.W.nsIn K cStatics "thirdparty.any" = some none) && (oexB c K && (decide (PySem.W.findIn K (.ref (He.ga K c)) fld = some none) && (decide (PySem.W.findIn K (.ref (He.ga K c)) fld2 = some none) &&
    (He.eqO (PySem.W.findIn K (.ref (He.ga K c)) "__init__") (some (some (.ref (He.fAd K (c, some "__init__"))))) && (decide (PySem.W.typeIn K (.ref (He.fAd K (c, some "__init__"))) = some (.type "function")) && !(P.main.scope.names.lookup ("super" : Str)).isSome)))))))))
end S


namespace S
open PySem PySem.Spec PyProof.Rows L2
def sp_law (K : Frag) : Sp := fun vs H Q _ => ∃ (a : Addr) (ns : List Int), vs = [.ref a] ∧ SqL K H a (ns.map V.int) ∧ ∀ H', Q (.bl true) H'
def top (i : Nat) : Stmt := PySem.Challenge.pw_slicedcolumns_k72_whole_first_rows_exact.main.body.getD i (.Pass ⟨0, 0, 0, 0⟩)
abbrev s__law_draw : Stmt := top 44
abbrev s__law_names : Stmt := top 45
abbrev s__law_slices : Stmt := top 47
abbrev s_Bitmapdd_initdd : Stmt := inClass (top 20) 1
abbrev s__law_bitmap : Stmt := top 48
abbrev s_is_name : Stmt := top 26
abbrev s_Schemadd_initdd : Stmt := inClass (top 27) 0
abbrev s_Schema_all_slices : Stmt := inClass (top 27) 3
abbrev s_Storedd_initdd : Stmt := inClass (top 42) 0
abbrev s__law_mask_store : Stmt := top 49
abbrev s_Schema_width_of : Stmt := inClass (top 27) 2
abbrev s_turned : Stmt := top 14
abbrev s_Bitmap_full : Stmt := inClass (top 20) 3
abbrev s_Bitmap_empty : Stmt := inClass (top 20) 2
abbrev s_Bitmapdd_booldd : Stmt := inClass (top 20) 22
abbrev s_Store_fetch : Stmt := inClass (top 42) 4
abbrev s_next_end : Stmt := top 12
abbrev s_swept : Stmt := top 13
abbrev s_Bitmap_paired : Stmt := inClass (top 20) 14
abbrev s_Bitmapdd_anddd : Stmt := inClass (top 20) 16
abbrev s_Bitmap_rank : Stmt := inClass (top 20) 8
abbrev s_Bitmap_ones : Stmt := inClass (top 20) 7
abbrev s_Bitmapdd_subdd : Stmt := inClass (top 20) 19
abbrev s_Bitmapdd_invertdd : Stmt := inClass (top 20) 20
abbrev s_Bitmapdd_ordd : Stmt := inClass (top 20) 17
abbrev s_Bitmap_runs : Stmt := inClass (top 20) 13
abbrev s_Bitmap_nth : Stmt := inClass (top 20) 9
abbrev s_Bitmap_span : Stmt := inClass (top 20) 4
abbrev s_Bitmap_first : Stmt := inClass (top 20) 10
abbrev s_first_rows : Stmt := top 22
abbrev s__law_choice : Stmt := top 50
abbrev s__law_settled : Stmt := top 51
abbrev s__law_least : Stmt := top 52
abbrev s__law_is_number : Stmt := top 46
abbrev s_Bitmapdd_containsdd : Stmt := inClass (top 20) 15
abbrev s__law_is_set : Stmt := top 53
abbrev s_law : Stmt := top 54
abbrev s_NoSuchColumndd_initdd : Stmt := inClass (top 9) 0
abbrev s_NoSuchRankdd_initdd : Stmt := inClass (top 6) 0
abbrev s_NoSuchRowdd_initdd : Stmt := inClass (top 5) 0
abbrev s_NoSuchSlicedd_initdd : Stmt := inClass (top 10) 0
def hfn : List DfX := (⟨fun K => He.fAd K ("_law_draw", none), "_law_draw", "_law_draw", defArgs s__law_draw, defBody s__law_draw, defScope s__law_draw, [], [], []⟩ : DfX) :: (⟨fun K => He.fAd K ("_law_names", none), "_law_names", "_law_names", defArgs s__law_names, defBody s__law_names, defScope s__law_names, [], [], []⟩ : DfX) :: (⟨fun K => He.fAd K ("_law_slices", none), "_law_slices", "_law_slices", defArgs s__law_slices, defBody s__law_slices, defScope s__law_slices, [], [], []⟩ : DfX) :: (⟨fun K => He.fAd K ("Bitmap", some "__init__"), "__init__", "Bitmap.__init__", defArgs s_Bitmapdd_initdd, defBody s_Bitmapdd_initdd, defScope s_Bitmapdd_initdd, [.adr (He.dflAt ("Bitmap", some "__init__") 0)], [], []⟩ : DfX) :: (⟨fun K => He.fAd K ("_law_bitmap", none), "_law_bitmap", "_law_bitmap", defArgs s__law_bitmap, defBody s__law_bitmap, defScope s__law_bitmap, [], [], []⟩ : DfX) :: (⟨fun K => He.fAd K ("is_name", none), "is_name", "is_name", defArgs s_is_name, defBody s_is_name, defScope s_is_name, [], [], []⟩ : DfX) :: (⟨fun K => He.fAd K ("Schema", some "__init__"), "__init__", "Schema.__init__", defArgs s_Schemadd_initdd, defBody s_Schemadd_initdd, defScope s_Schemadd_initdd, [], [], []⟩ : DfX) :: (⟨fun K => He.fAd K ("Schema", some "all_slices"), "all_slices", "Schema.all_slices", defArgs s_Schema_all_slices, defBody s_Schema_all_slices, defScope s_Schema_all_slices, [], [], []⟩ : DfX) :: (⟨fun K => He.fAd K ("Store", some "__init__"), "__init__", "Store.__init__", defArgs s_Storedd_initdd, defBody s_Storedd_initdd, defScope s_Storedd_initdd, [], [], []⟩ : DfX) :: (⟨fun K => He.fAd K ("_law_mask_store", none), "_law_mask_store", "_law_mask_store", defArgs s__law_mask_store, defBody s__law_mask_store, defScope s__law_mask_store, [], [], []⟩ : DfX) :: (⟨fun K => He.fAd K ("Schema", some "width_of"), "width_of", "Schema.width_of", defArgs s_Schema_width_of, defBody s_Schema_width_of, defScope s_Schema_width_of, [], [], []⟩ : DfX) :: (⟨fun K => He.fAd K ("turned", none), "turned", "turned", defArgs s_turned, defBody s_turned, defScope s_turned, [], [], []⟩ : DfX) :: (⟨fun K => uA K "Bitmap" "full", "full", "Bitmap.full", defArgs s_Bitmap_full, defBody s_Bitmap_full, defScope s_Bitmap_full, [], [], []⟩ : DfX) :: (⟨fun K => uA K "Bitmap" "empty", "empty", "Bitmap.empty", defArgs s_Bitmap_empty, defBody s_Bitmap_empty, defScope s_Bitmap_empty, [], [], []⟩ : DfX) :: (⟨fun K => He.fAd K ("Bitmap", some "__bool__"), "__bool__", "Bitmap.__bool__", defArgs s_Bitmapdd_booldd, defBody s_Bitmapdd_booldd, defScope s_Bitmapdd_booldd, [], [], []⟩ : DfX) :: (⟨fun K => He.fAd K ("Store", some "fetch"), "fetch", "Store.fetch", defArgs s_Store_fetch, defBody s_Store_fetch, defScope s_Store_fetch, [], [], []⟩ : DfX) :: (⟨fun K => He.fAd K ("next_end", none), "next_end", "next_end", defArgs s_next_end, defBody s_next_end, defScope s_next_end, [], [], []⟩ : DfX) :: (⟨fun K => He.fAd K ("swept", none), "swept", "swept", defArgs s_swept, defBody s_swept, defScope s_swept, [], [], []⟩ : DfX) :: (⟨fun K => He.fAd K ("Bitmap", some "paired"), "paired", "Bitmap.paired", defArgs s_Bitmap_paired, defBody s_Bitmap_paired, defScope s_Bitmap_paired, [], [], []⟩ : DfX) :: (⟨fun K => He.fAd K ("Bitmap", some "__and__"), "__and__", "Bitmap.__and__", defArgs s_Bitmapdd_anddd, defBody s_Bitmapdd_anddd, defScope s_Bitmapdd_anddd, [], [], []⟩ : DfX) :: (⟨fun K => He.fAd K ("Bitmap", some "rank"), "rank", "Bitmap.rank", defArgs s_Bitmap_rank, defBody s_Bitmap_rank, defScope s_Bitmap_rank, [], [], []⟩ : DfX) :: (⟨fun K => uA K "Bitmap" "ones", "ones", "Bitmap.ones", defArgs s_Bitmap_ones, defBody s_Bitmap_ones, defScope s_Bitmap_ones, [], [], []⟩ : DfX) :: (⟨fun K => He.fAd K ("Bitmap", some "__sub__"), "__sub__", "Bitmap.__sub__", defArgs s_Bitmapdd_subdd, defBody s_Bitmapdd_subdd, defScope s_Bitmapdd_subdd, [], [], []⟩ : DfX) :: (⟨fun K => He.fAd K ("Bitmap", some "__invert__"), "__invert__", "Bitmap.__invert__", defArgs s_Bitmapdd_invertdd, defBody s_Bitmapdd_invertdd, defScope s_Bitmapdd_invertdd, [], [], []⟩ : DfX) :: (⟨fun K => He.fAd K ("Bitmap", some "__or__"), "__or__", "Bitmap.__or__", defArgs s_Bitmapdd_ordd, defBody s_Bitmapdd_ordd, defScope s_Bitmapdd_ordd, [], [], []⟩ : DfX) :: (⟨fun K => He.fAd K ("Bitmap", some "runs"), "runs", "Bitmap.runs", defArgs s_Bitmap_runs, defBody s_Bitmap_runs, defScope s_Bitmap_runs, [], [], []⟩ : DfX) :: (⟨fun K => He.fAd K ("Bitmap", some "nth"), "nth", "Bitmap.nth", defArgs s_Bitmap_nth, defBody s_Bitmap_nth, defScope s_Bitmap_nth, [], [], []⟩ : DfX) :: (⟨fun K => uA K "Bitmap" "span", "span", "Bitmap.span", defArgs s_Bitmap_span, defBody s_Bitmap_span, defScope s_Bitmap_span, [], [], []⟩ : DfX) :: (⟨fun K => He.fAd K ("Bitmap", some "first"), "first", "Bitmap.first", defArgs s_Bitmap_first, defBody s_Bitmap_first, defScope s_Bitmap_first, [], [], []⟩ : DfX) :: (⟨fun K => He.fAd K ("first_rows", none), "first_rows", "first_rows", defArgs s_first_rows, defBody s_first_rows, defScope s_first_rows, [], [("rows", .non), ("largest", .bl false)], []⟩ : DfX) :: (⟨fun K => He.fAd K ("_law_choice", none), "_law_choice", "_law_choice", defArgs s__law_choice, defBody s__law_choice, defScope s__law_choice, [], [], []⟩ : DfX) :: (⟨fun K => He.fAd K ("_law_settled", none), "_law_settled", "_law_settled", defArgs s__law_settled, defBody s__law_settled, defScope s__law_settled, [], [], []⟩ : DfX) :: (⟨fun K => He.fAd K ("_law_least", none), "_law_least", "_law_least", defArgs s__law_least, defBody s__law_least, defScope s__law_least, [], [], []⟩ : DfX) :: (⟨fun K => He.fAd K ("_law_is_number", none), "_law_is_number", "_law_is_number", defArgs s__law_is_number, defBody s__law_is_number, defScope s__law_is_number, [], [], []⟩ : DfX) :: (⟨fun K => He.fAd K ("Bitmap", some "__contains__"), "__contains__", "Bitmap.__contains__", defArgs s_Bitmapdd_containsdd, defBody s_Bitmapdd_containsdd, defScope s_Bitmapdd_containsdd, [], [], []⟩ : DfX) :: (⟨fun K => He.fAd K ("_law_is_set", none), "_law_is_set", "_law_is_set", defArgs s__law_is_set, defBody s__law_is_set, defScope s__law_is_set, [], [], []⟩ : DfX) :: (⟨fun K => He.fAd K ("law", none), "law", "law", defArgs s_law, defBody s_law, defScope s_law, [], [], []⟩ : DfX) :: (⟨fun K => He.fAd K ("NoSuchColumn", some "__init__"), "__init__", "NoSuchColumn.__init__", defArgs s_NoSuchColumndd_initdd, defBody s_NoSuchColumndd_initdd, defScope s_NoSuchColumndd_initdd, [], [], ["__class__"]⟩ : DfX) :: (⟨fun K => He.fAd K ("NoSuchRank", some "__init__"), "__init__", "NoSuchRank.__init__", defArgs s_NoSuchRankdd_initdd, defBody s_NoSuchRankdd_initdd, defScope s_NoSuchRankdd_initdd, [], [], ["__class__"]⟩ : DfX) :: (⟨fun K => He.fAd K ("NoSuchRow", some "__init__"), "__init__", "NoSuchRow.__init__", defArgs s_NoSuchRowdd_initdd, defBody s_NoSuchRowdd_initdd, defScope s_NoSuchRowdd_initdd, [], [], ["__class__"]⟩ : DfX) :: (⟨fun K => He.fAd K ("NoSuchSlice", some "__init__"), "__init__", "NoSuchSlice.__init__", defArgs s_NoSuchSlicedd_initdd, defBody s_NoSuchSlicedd_initdd, defScope s_NoSuchSlicedd_initdd, [], [], ["__class__"]⟩ : DfX) :: []
abbrev hP : Program := PySem.Challenge.rw_slicedcolumns_k72_whole_first_rows_exact.prog
def hfx : List (Frag → Bool) := (cfB "Bitmap" ["ends", "size"]) :: (dfB "Schema" [] ["columns"]) :: (dfB "Store" [] ["schema", "size", "held", "log"]) :: (fun K => empB K (V.ref (He.dflAt ("Bitmap", some "__init__") 0 K))) :: (propB "Bitmap" "ones") :: (rsB "BadBitmap") :: (rsB "BadSchema") :: (rsB "SizesDiffer") :: (statB "Bitmap" "empty") :: (statB "Bitmap" "full") :: (statB "Bitmap" "span") :: (fun K => He.tupB K "AND" [.int 0, .int 0, .int 0, .int 1]) :: (fun K => He.tupB K "LESS" [.int 0, .int 0, .int 1, .int 0]) :: (fun K => He.tupB K "OR" [.int 0, .int 1, .int 1, .int 1]) :: (exfB "BadBitmap" ["SliceError"]) :: (exfB "BadSchema" ["SliceError"]) :: (exfB "NoSuchColumn" ["SliceError"]) :: (exfB "NoSuchRank" ["SliceError"]) :: (exfB "NoSuchRow" ["SliceError"]) :: (exfB "NoSuchSlice" ["SliceError"]) :: (exfB "SizesDiffer" ["SliceError"]) :: (xiB hP "NoSuchColumn" "name") :: (xiB hP "NoSuchRank" "number") :: (xiB hP "NoSuchRow" "row") :: (xiB2 hP "NoSuchSlice" "name" "place") :: []
def hfa : List He.Fa := (.glo "AND") :: (.glo "BadBitmap") :: (.glo "BadSchema") :: (.glo "Bitmap") :: (.glo "LESS") :: (.glo "NoSuchColumn") :: (.glo "NoSuchRank") :: (.glo "NoSuchRow") :: (.glo "NoSuchSlice") :: (.glo "OR") :: (.glo "Schema") :: (.glo "SizesDiffer") :: (.glo "Store") :: (.glo "_law_bitmap") :: (.glo "_law_choice") :: (.glo "_law_draw") :: (.glo "_law_is_number") :: (.glo "_law_is_set") :: (.glo "_law_least") :: (.glo "_law_mask_store") :: (.glo "_law_names") :: (.glo "_law_settled") :: (.glo "_law_slices") :: (.glo "first_rows") :: (.glo "is_name") :: (.glo "law") :: (.glo "next_end") :: (.glo "swept") :: (.glo "turned") :: (.free "abs") :: (.free "bool") :: (.free "enumerate") :: (.free "int") :: (.free "isinstance") :: (.free "len") :: (.free "list") :: (.free "range") :: (.free "sorted") :: (.free "super") :: (.free "tuple") :: (.mkr "Bitmap") :: (.mkr "Schema") :: (.mkr "Store") :: (.meth "Bitmap" "first") :: (.meth "Bitmap" "nth") :: (.meth "Bitmap" "paired") :: (.meth "Bitmap" "rank") :: (.meth "Bitmap" "runs") :: (.meth "Bitmap" "__and__") :: (.meth "Bitmap" "__bool__") :: (.meth "Bitmap" "__contains__") :: (.meth "Bitmap" "__invert__") :: (.meth "Bitmap" "__or__") :: (.meth "Bitmap" "__sub__") :: (.meth "Schema" "all_slices") :: (.meth "Schema" "width_of") :: (.meth "Store" "fetch") :: (.str "LETTERS" "abcdefghijklmnopqrstuvwxyz") :: (.int "LONGEST" 8) :: []
abbrev hR : PySem.W.OpenRow := PySem.W.OpenLaw.row PySem.Challenge.rw_slicedcolumns_k72_whole_first_rows_exact
def hloose : List Str := "_wall" :: "SliceError" :: "BadBitmap" :: "SizesDiffer" :: "NoSuchRow" :: "NoSuchRank" :: "BadColumn" :: "BadSchema" :: "NoSuchColumn" :: "NoSuchSlice" :: "next_end" :: "swept" :: "turned" :: "AND" :: "OR" :: "XOR" :: "LESS" :: "Bitmap" :: "first_rows" :: "LETTERS" :: "LONGEST" :: "is_name" :: "Schema" :: "weight_of" :: "number_at" :: "extended" :: "narrowed" :: "added" :: "negated" :: "multiplied" :: "bitmap_of" :: "width_for" :: "bit_of" :: "Column" :: "Store" :: "_law_draw" :: "_law_names" :: "_law_is_number" :: "_law_slices" :: "_law_bitmap" :: "_law_mask_store" :: "_law_choice" :: "_law_settled" :: "_law_least" :: "_law_is_set" :: []
def hnm : List Str := "SliceError" :: "BadBitmap" :: "SizesDiffer" :: "NoSuchRow" :: "NoSuchRank" :: "BadSchema" :: "NoSuchColumn" :: "NoSuchSlice" :: "next_end" :: "swept" :: "turned" :: "AND" :: "OR" :: "LESS" :: "Bitmap" :: "first_rows" :: "is_name" :: "Schema" :: "Store" :: "_law_draw" :: "_law_names" :: "_law_is_number" :: "_law_slices" :: "_law_bitmap" :: "_law_mask_store" :: "_law_choice" :: "_law_settled" :: "_law_least" :: "_law_is_set" :: "law" :: []
abbrev hhk : PySem.W.Hook := hookY hnm hfa hfx hfn
def hob (s : PySem.W.SharedT) : AlX := obsYG hnm hfa hfx hfn (HandSHeadRun.getT s)
theorem hob_eq (s : PySem.W.SharedT) : hob s = hhk.obs s.abs := obsYG_eq (HandSHeadRun.getT_eq s)
section
open HandSHeadRun PySem.W
def hK (s : PySem.W.SharedT) : Frag := He.frG (HandSHeadRun.getT s) (asY hnm (HandSHeadRun.getT s))
theorem hq1 (w : World) (os : OsState) : (HandSHeadRun.endF (HandSHeadRun.stepQ (HandSHeadRun.denQ HandSHeadRun.tabQ) hR.prog w) 16000 hR.prog w os).map (fun s => (HandSHeadRun.looksF hR.prog (boot_heap w.params) s.abs, HandSHeadRun.seenQ (PySem.W.view hR.prog [54]) hloose (importedModules hR.prog.main.body) (fun s => xlAt (PySem.W.view hR.prog [54]) [] s && recOk hR.toRowW.records s) s.abs)) = some (true, openGood (PySem.W.view hR.prog [54]) hloose) := by kernel_rfl
theorem hq2 (w : World) (os : OsState) : (HandSHeadRun.endF (HandSHeadRun.stepQ (HandSHeadRun.denQ HandSHeadRun.tabQ) hR.prog w) 16000 hR.prog w os).map (fun s => hfa.all fun f => f.ok (hK s)) = some (true) := by kernel_rfl
theorem hq3a (w : World) (os : OsState) : (HandSHeadRun.endF (HandSHeadRun.stepQ (HandSHeadRun.denQ HandSHeadRun.tabQ) hR.prog w) 16000 hR.prog w os).map (fun s => (hfx.take 9).all fun f => f (hK s)) = some (true) := by kernel_rfl
theorem hq3b (w : World) (os : OsState) : (HandSHeadRun.endF (HandSHeadRun.stepQ (HandSHeadRun.denQ HandSHeadRun.tabQ) hR.prog w) 16000 hR.prog w os).map (fun s => ((hfx.drop 9).take 9).all fun f => f (hK s)) = some (true) := by kernel_rfl
theorem hq3c (w : World) (os : OsState) : (HandSHeadRun.endF (HandSHeadRun.stepQ (HandSHeadRun.denQ HandSHeadRun.tabQ) hR.prog w) 16000 hR.prog w os).map (fun s => ((hfx.drop 9).drop 9).all fun f => f (hK s)) = some (true) := by kernel_rfl
theorem hq4 (w : World) (os : OsState) : (HandSHeadRun.endF (HandSHeadRun.stepQ (HandSHeadRun.denQ HandSHeadRun.tabQ) hR.prog w) 16000 hR.prog w os).map (fun s => (hfn.take 13).all fun d => d.ok (hK s)) = some (true) := by kernel_rfl
theorem hq5 (w : World) (os : OsState) : (HandSHeadRun.endF (HandSHeadRun.stepQ (HandSHeadRun.denQ HandSHeadRun.tabQ) hR.prog w) 16000 hR.prog w os).map (fun s => ((hfn.drop 13).take 13).all fun d => d.ok (hK s)) = some (true) := by kernel_rfl
theorem hq6 (w : World) (os : OsState) : (HandSHeadRun.endF (HandSHeadRun.stepQ (HandSHeadRun.denQ HandSHeadRun.tabQ) hR.prog w) 16000 hR.prog w os).map (fun s => ((hfn.drop 13).drop 13).all fun d => d.ok (hK s)) = some (true) := by kernel_rfl
theorem hq7 (w : World) (os : OsState) : (HandSHeadRun.endF (HandSHeadRun.stepQ (HandSHeadRun.denQ HandSHeadRun.tabQ) hR.prog w) 16000 hR.prog w os).map (fun s => hfn.map fun d => fnX (hK s) (d.ad (hK s))) = some (hfn.map DfX.val) := by kernel_rfl
theorem run_parts3 {σ β : Type} {o : Option σ} {l : σ → Bool} {g : σ → β} {v2 : β} {K : σ → Frag} {fa : List He.Fa} {fx : List (Frag → Bool)} {fn : List DfX} {ob : σ → AlX} (n m p : Nat) (hob : ∀ s, ob s = obsK fa fx fn (K s)) (h1 : o.map (fun s => (l s, g s)) = some (true, v2))
    (h3 : o.map (fun s => fa.all fun f => f.ok (K s)) = some true) (h4a : o.map (fun s => (fx.take p).all fun f => f (K s)) = some true) (h4b : o.map (fun s => ((fx.drop p).take p).all fun f => f (K s)) = some true) (h4c : o.map (fun s => ((fx.drop p).drop p).all fun f => f (K s)) = some true) (h5 : o.map (fun s => (fn.take n).all fun d => d.ok (K s)) = some true) (h6 : o.map (fun s => ((fn.drop n).take m).all fun d => d.ok (K s)) = some true)
    (h7 : o.map (fun s => ((fn.drop n).drop m).all fun d => d.ok (K s)) = some true) (h8 : o.map (fun s => fn.map fun d => fnX (K s) (d.ad (K s))) = some (fn.map DfX.val)) : o.map (fun s => (l s, g s, ob s)) = some (true, v2, valX fn) := by
  refine run_parts n m hob h1 h3 ?_ h5 h6 h7 h8
  cases o with
  | none => cases h1
  | some s =>
    have a : ((fx.take p).all fun f => f (K s)) = true := Option.some.inj h4a
    have b : (((fx.drop p).take p).all fun f => f (K s)) = true := Option.some.inj h4b
    have c : (((fx.drop p).drop p).all fun f => f (K s)) = true := Option.some.inj h4c
    have e : (fx.all fun f => f (K s)) = true := by
      rw [← List.take_append_drop p fx, List.all_append, a, ← List.take_append_drop p (fx.drop p), List.all_append, b, c] <;> rfl
    show some (fx.all fun f => f (K s)) = some true
    rw [e]
end
theorem hrun (w : World) : HandSHeadRun.RunEq hR (PySem.W.view hR.prog [54]) hhk hob 16000 hloose w := by
  intro os
  exact run_parts3 (K := hK) 13 13 9 (fun _ => rfl) (hq1 w os) (hq2 w os) (hq3a w os) (hq3b w os) (hq3c w os) (hq4 w os) (hq5 w os) (hq6 w os) (hq7 w os)
end S
namespace S
open PySem PySem.Spec PyProof.Rows L2
abbrev HF : Prop := ∀ (w : World) (K : Frag) (h : Heap) (mg : Str → Option Value) (f : Addr), K.In h → h.Ns mainGlobals mg → mg ("law" : Str) = some (.ref f) → SaysX hfa hfx hfn K →
    ∃ fd : FuncData, (∀ (s : Shared) (v : Value), BindsTo s fd ⟨[v], []⟩ [("_law_script", v)]) ∧ ∀ base : Heap, K.In base → base.Ns mainGlobals mg → FnOk hP w K mg base CX0 8 f fd ["_law_script"] (sp_law K)
end S
section
open PySem PySem.W PySem.Calls PyProof.Rows
theorem hopenS (hf : S.HF) : PySem.Challenge.rw_slicedcolumns_k72_whole_first_rows_exact.Holds := by
  w_on; o_law
  refine HandSHeadRun.head_any (r := OpenLaw.row PySem.Challenge.rw_slicedcolumns_k72_whole_first_rows_exact) (q := view (OpenLaw.row PySem.Challenge.rw_slicedcolumns_k72_whole_first_rows_exact).prog [54]) (H := S.hhk) (ob := S.hob) (M := 16000) (loose := S.hloose) (d := HandSHeadRun.topDef (OpenLaw.row PySem.Challenge.rw_slicedcolumns_k72_whole_first_rows_exact).prog 54) (kwd := []) S.hob_eq
    (by kernel_rfl) (fun s => by kernel_rfl) S.hrun (by kernel_rfl) (by kernel_rfl) (by kernel_rfl) (by rfl) (by first | assumption | decide +kernel) (by decide +kernel) ⟨rfl, rfl, rfl, rfl, rfl, by decide +kernel⟩ ?hw ?hc
  case hw => w_witness2
  case hc =>
    refine L2.walk_ofE (l := PySem.Challenge.rw_slicedcolumns_k72_whole_first_rows_exact) (n := 63) (k := 8) (x := "_law_script") (CX := L2.CX0) rfl (by decide) (by kernel_rfl) ⟨rfl, by decide, by decide⟩ ?F (fun _ _ _ _ z => z)
    intro w mg fa h Y G hmg0
    obtain ⟨K, KX, c⟩ := Y
    have hmg : mg ("law" : PySem.Str) = some (.ref fa) := by
      have e : (HandSHeadRun.topDef (OpenLaw.row PySem.Challenge.rw_slicedcolumns_k72_whole_first_rows_exact).prog 54).name = ("law" : PySem.Str) := by kernel_rfl
      rw [← e]
      exact hmg0
    obtain ⟨fd, hb, hF⟩ := hf w K _ mg _ KX G hmg c
    exact ⟨K, fd, S.sp_law K, KX, hb, fun H a ns hl _ hS => ⟨a, ns, rfl, hS, fun _ => rfl⟩, hF⟩
end
namespace S
open PySem PySem.Spec PyProof.Rows L2
/-! ## readings that reduce -/
theorem PE.of {X : Cx} {e : Expr} {t t' : TE} (h : PE X e t) (i : ∀ σ H Q, t' σ H Q → t σ H Q) : PE X e t' := ⟨fun pins s σ H Q I q => h.run pins s σ H Q I (i σ H Q q)⟩
theorem PT.of {X : Cx} {e : Expr} {t t' : TT} (h : PT X e t) (i : ∀ σ H Q, t' σ H Q → t σ H Q) : PT X e t' := ⟨fun pins s σ H Q I q => h.run pins s σ H Q I (i σ H Q q)⟩
theorem PS.of {X : Cx} {e : Stmt} {t t' : TS} (h : PS X e t) (i : ∀ D σ H, t' D σ H → t D σ H) : PS X e t' := ⟨fun pins s σ H Q I q => h.run pins s σ H Q I (i Q σ H q)⟩
theorem OpR.of {X : Cx} {f : Value → Value → Sem Value} {r r' : R2} (h : OpR X f r) (i : ∀ x y H Q, r' x y H Q → r x y H Q) : OpR X f r' := fun pins s σ H x y v u Q I rx ry q => h pins s σ H x y v u Q I rx ry (i x y H Q q)
theorem IxR.of {X : Cx} {r r' : R2} (h : IxR X r) (i : ∀ x y H Q, r' x y H Q → r x y H Q) : IxR X r' := fun e1 e2 pins s σ H x y v u Q I rx ry q hs => h e1 e2 pins s σ H x y v u Q I rx ry (i x y H Q q) hs
theorem CallR.of {X : Cx} {f : Value} {r r' : List V → Hp → VK → Prop} (h : CallR X f r) (i : ∀ xs H Q, r' xs H Q → r xs H Q) : CallR X f r' := fun pins s σ H xs us Q I rx q => h pins s σ H xs us Q I rx (i xs H Q q)
theorem nth_ok : ∀ {σ : L2.St} {i : Nat} {v : V}, nth σ i = some v → σ[i]? = some (some v)
  | [], _, _, h => nomatch h
  | x :: _, 0, _, h => by
    have e : x = some _ := h
    rw [e]; rfl
  | _ :: r, n + 1, _, h => by
    have := nth_ok (σ := r) (i := n) h
    simpa using this
def SqA (K : Frag) (H : Hp) (p : Addr) (xs : List V) : Prop := SqL K H p xs ∨ SqT K H p xs
/-! ### points at which a reading waits for an answer -/
/-- a condition, then on -/
structure Need (c q : Prop) : Prop where
  c : c
  q : q
/-- the sequence at p is read -/
structure Rd (K : Frag) (H : Hp) (p : Addr) (k : List V → Prop) : Prop where
  ex : ∃ xs, SqA K H p xs ∧ k xs
theorem Rd.l {K : Frag} {H : Hp} {p : Addr} {k : List V → Prop} {xs : List V} (h : H p = some (.lst xs)) (q : k xs) : Rd K H p k := ⟨xs, .inl (SqL.of h), q⟩
theorem Rd.t {K : Frag} {H : Hp} {p : Addr} {k : List V → Prop} {xs : List V} (h : H p = some (.tup xs)) (q : k xs) : Rd K H p k := ⟨xs, .inr (SqT.of h), q⟩
theorem Rd.sl {K : Frag} {H : Hp} {p : Addr} {k : List V → Prop} {xs : List V} (h : SqL K H p xs) (q : k xs) : Rd K H p k := ⟨xs, .inl h, q⟩
theorem Rd.st {K : Frag} {H : Hp} {p : Addr} {k : List V → Prop} {xs : List V} (h : SqT K H p xs) (q : k xs) : Rd K H p k := ⟨xs, .inr h, q⟩
theorem Rd.sa {K : Frag} {H : Hp} {p : Addr} {k : List V → Prop} {xs : List V} (h : SqA K H p xs) (q : k xs) : Rd K H p k := ⟨xs, h, q⟩
/-- the item at i -/
structure At (xs : List V) (i : Int) (k : V → Prop) : Prop where
  ex : ∃ v, atI xs i = some v ∧ k v
theorem At.of {xs : List V} {i : Int} {k : V → Prop} {v : V} (h : atI xs i = some v) (q : k v) : At xs i k := ⟨v, h, q⟩
/-- the list at p is to be changed -/
structure Ls (H : Hp) (p : Addr) (k : List V → Prop) : Prop where
  ex : ∃ xs, H p = some (.lst xs) ∧ k xs
theorem Ls.of {H : Hp} {p : Addr} {k : List V → Prop} {xs : List V} (h : H p = some (.lst xs)) (q : k xs) : Ls H p k := ⟨xs, h, q⟩
/-- a new list; a new tuple, or one that stands -/
structure NewL (H : Hp) (ys : List V) (Q : V → Hp → Prop) : Prop where
  go : ∀ p, H p = none → Q (.ref p) (upd H p (.lst ys))
structure NewT (K : Frag) (H : Hp) (ys : List V) (Q : V → Hp → Prop) : Prop where
  go : ∀ p H', Same H H' → SqT K H' p ys → Q (.ref p) H'
def onSome (o : Option V) (k : V → Prop) : Prop := match o with
  | some v => k v
  | none => False
def dVar (i : Nat) : TE := fun σ H Q => onSome (nth σ i) fun v => Q v H
theorem pv {X : Cx} (i : Nat) {x : Str} {pos : Pos} (hN : X.N[i]? = some x := by rfl) (hv : Vis X.env.scope x := by first | exact Or.inl rfl | exact Or.inr (Or.inl rfl) | exact Or.inr (Or.inr rfl)) (hd : (x == ("__debug__" : Str)) = false := by decide)
    (hcd : (x == ("__classdict__" : Str)) = false := by decide) : PE X (.Name x pos) (dVar i) := PE.of (pe_var hN hv hd hcd) fun σ H Q q => by
  unfold dVar onSome at q
  cases e : nth σ i with
  | none => rw [e] at q; exact q.elim
  | some v => rw [e] at q; exact ⟨v, nth_ok e, q⟩
/-- two ways by a bool -/
def bIf (b : Bool) (A B : Prop) : Prop := match b with
  | true => A
  | false => B
theorem ifb {b : Bool} {A B : Prop} (h1 : b = true → A) (h2 : b = false → B) : bIf b A B := by
  cases b with
  | true => exact h1 rfl
  | false => exact h2 rfl
theorem ifd {c : Prop} [Decidable c] {A B : Prop} (h1 : c → A) (h2 : ¬ c → B) : bIf (decide c) A B := ifb (fun h => h1 (of_decide_eq_true h)) fun h => h2 (of_decide_eq_false h)
theorem ifn {c : Prop} [Decidable c] {A B : Prop} (h1 : ¬ c → A) (h2 : c → B) : bIf (!decide c) A B := ifb (fun h => h1 (by simpa using h)) fun h => h2 (by simpa using h)
theorem ift {c : Prop} [Decidable c] {A B : Prop} (hc : c) (h1 : A) : bIf (decide c) A B := by rw [decide_eq_true hc]; exact h1
theorem iff' {c : Prop} [Decidable c] {A B : Prop} (hc : ¬ c) (h1 : B) : bIf (decide c) A B := by rw [decide_eq_false hc]; exact h1
theorem ifnt {c : Prop} [Decidable c] {A B : Prop} (hc : ¬ c) (h1 : A) : bIf (!decide c) A B := by rw [decide_eq_false hc]; exact h1
theorem ifnf {c : Prop} [Decidable c] {A B : Prop} (hc : c) (h1 : B) : bIf (!decide c) A B := by rw [decide_eq_true hc]; exact h1
/-! ### tests -/
def dTru (K : Frag) (x : V) (H : Hp) (Q : Bool → Prop) : Prop := match x with
  | .bl b => Q b
  | .non => Q false
  | .int i => Q (decide (i ≠ 0))
  | .str z => Need (z.length ≤ sizeLine) (Q (decide (z.length ≠ 0)))
  | .ref p => Rd K H p fun xs => Q (decide (xs ≠ []))
  | _ => False
def dTest (K : Frag) (ta : TE) : TT := fun σ H Q => ta σ H fun x H1 => dTru K x H1 fun b => Q b H1
theorem pt_of {X : Cx} {a : Expr} {ta : TE} (ha : PE X a ta) (he : ∀ whole, isTrue a X.env whole = (do let v ← whole; standAt a.pos; holding [v] (truthy v)) := by intro _; rfl) : PT X a (dTest X.K ta) := by
  refine ⟨fun pins s σ H Q I h => ?_⟩
  refine isTrue_plain (thn (ha.run pins s σ H _ I h) fun v s1 ⟨x, H1, I1, r1, q1⟩ => ?_) (he _)
  cases x with
  | bl b =>
    exact tru_ok pins s1 σ H1 (.bl b) v Q I1 r1 ⟨b, rfl, q1⟩
  | non =>
    exact tru_ok pins s1 σ H1 .non v Q I1 r1 ⟨false, rfl, q1⟩
  | int i =>
    refine tru_ok pins s1 σ H1 (.int i) v Q I1 r1 ⟨_, rfl, ?_⟩
    have e : (i != 0) = decide (i ≠ 0) := by by_cases h : i = 0 <;> simp [h]
    rw [e]; exact q1
  | str z =>
    refine tru_ok pins s1 σ H1 (.str z) v Q I1 r1 ⟨_, ⟨q1.c, rfl⟩, ?_⟩
    have e : ((z.length : Int) != 0) = decide (z.length ≠ 0) := by by_cases h : z.length = 0 <;> simp [h]
    rw [e]; exact q1.q
  | ref p =>
    obtain ⟨⟨xs, hx, q⟩⟩ := q1
    have e : (!xs.isEmpty) = decide (xs ≠ []) := by cases xs <;> simp
    rcases hx with hx | hx
    · refine tru_ok pins s1 σ H1 (.ref p) v Q I1 r1 ⟨_, .inl ⟨xs, hx, rfl⟩, ?_⟩
      rw [e]; exact q
    · refine tru_ok pins s1 σ H1 (.ref p) v Q I1 r1 ⟨_, .inr (.inl ⟨xs, hx, rfl⟩), ?_⟩
      rw [e]; exact q
  | _ => exact q1.elim
def dAnd (t u : TT) : TT := fun σ H Q => t σ H fun c H1 => bIf c (u σ H1 Q) (Q false H1)
def dOr (t u : TT) : TT := fun σ H Q => t σ H fun c H1 => bIf c (Q true H1) (u σ H1 Q)
def dNot (t : TT) : TT := fun σ H Q => t σ H fun c H1 => Q (!c) H1
def dIfS (c : TT) (t u : TS) : TS := fun D σ H => c σ H fun b H1 => bIf b (t D σ H1) (u D σ H1)

/-! ### operators by the values -/
def int2 (k : Int → Int → Prop) (x y : V) : Prop := match x, y with
  | .int i, .int j => k i j
  | _, _ => False
/-- two lists, two tuples one behind the other -/
structure Cat (K : Frag) (H : Hp) (a b : Addr) (Q : V → Hp → Prop) : Prop where
  ex : (∃ xs zs, H a = some (.lst xs) ∧ H b = some (.lst zs) ∧ xs.length + zs.length ≤ sizeLine ∧ ∀ p, H p = none → Q (.ref p) (upd H p (.lst (xs ++ zs)))) ∨
     (∃ xs ys, SqT K H a xs ∧ SqT K H b ys ∧ xs.length + ys.length ≤ sizeLine ∧ ∀ p H', Same H H' → SqT K H' p (xs ++ ys) → Q (.ref p) H')
theorem Cat.l {K : Frag} {H : Hp} {a b : Addr} {Q : V → Hp → Prop} {xs zs : List V} (h : H a = some (.lst xs)) (h2 : H b = some (.lst zs)) (hz : xs.length + zs.length ≤ sizeLine) (q : ∀ p, H p = none → Q (.ref p) (upd H p (.lst (xs ++ zs)))) : Cat K H a b Q := ⟨.inl ⟨xs, zs, h, h2, hz, q⟩⟩
theorem Cat.t {K : Frag} {H : Hp} {a b : Addr} {Q : V → Hp → Prop} {xs ys : List V} (h : SqT K H a xs) (h2 : SqT K H b ys) (hz : xs.length + ys.length ≤ sizeLine) (q : ∀ p H', Same H H' → SqT K H' p (xs ++ ys) → Q (.ref p) H') : Cat K H a b Q := ⟨.inr ⟨xs, ys, h, h2, hz, q⟩⟩
def oAdd (K : Frag) : R2 := fun x y H Q => match x, y with
  | .int i, .int j => Q (.int (i + j)) H
  | .str a, .str b => Need (a.length + b.length ≤ sizeLine) (Q (.str (a ++ b)) H)
  | .ref a, .ref b => Cat K H a b Q
  | _, _ => False
theorem same_new {H : Hp} {p : Addr} {o : HO} (h : H p = none) : Same H (upd H p o) := fun b u e => by rw [upd_ne (ne_of_none e h)]; exact e
theorem o_add {X : Cx} : OpR X (binaryOp .Add) (oAdd X.K) := OpR.of (op_add.or (op_add_str.or (op_cat.or op_catA))) fun x y H Q q => by
  cases x <;> cases y <;> try exact q.elim
  · exact .inl ⟨_, _, rfl, rfl, q⟩
  · exact .inr (.inl ⟨_, _, rfl, rfl, q.c, q.q⟩)
  · rcases q.ex with ⟨xs, zs, h1, h2, h3, q⟩ | ⟨xs, ys, h1, h2, h3, q⟩
    · exact .inr (.inr (.inl ⟨_, _, xs, zs, rfl, rfl, h1, h2, h3, q⟩))
    · refine .inr (.inr (.inr ⟨_, _, xs, ys, rfl, rfl, h1, h2, h3, fun e => ?_, fun _ e => ?_, fun _ _ p hp => ?_⟩))
      · subst e; exact q _ _ (Same.refl _) h2
      · subst e; exact q _ _ (Same.refl _) (by rw [List.append_nil]; exact h1)
      · exact q _ _ (same_new hp) (SqT.of upd_same)
def oI (C : Int → Int → Prop) (g : Int → Int → Int) : R2 := fun x y H Q => int2 (fun i j => Need (C i j) (Q (.int (g i j)) H)) x y
def oI0 (g : Int → Int → Int) : R2 := fun x y H Q => int2 (fun i j => Q (.int (g i j)) H) x y
theorem oI_of {X : Cx} {f : Value → Value → Sem Value} {C : Int → Int → Prop} {g : Int → Int → Int} (h : OpR X f (rI C fun i j => .int (g i j))) : OpR X f (oI C g) := OpR.of h fun x y H Q q => by
  cases x <;> cases y <;> try exact q.elim
  exact ⟨_, _, rfl, rfl, q.c, q.q⟩
theorem oI0_of {X : Cx} {f : Value → Value → Sem Value} {g : Int → Int → Int} (h : OpR X f (rI0 fun i j => .int (g i j))) : OpR X f (oI0 g) := OpR.of h fun x y H Q q => by
  cases x <;> cases y <;> try exact q.elim
  exact ⟨_, _, rfl, rfl, q⟩
def oSub : R2 := oI0 fun i j => i - j
theorem o_sub {X : Cx} : OpR X (binaryOp .Sub) oSub := oI0_of op_sub
def oFdiv : R2 := oI CDiv fun i j => i / j
theorem o_fdiv {X : Cx} : OpR X (binaryOp .FloorDiv) oFdiv := oI_of op_fdiv
def oMod : R2 := oI (fun _ j => 0 < j) fun i j => i % j
theorem o_mod {X : Cx} : OpR X (binaryOp .Mod) oMod := oI_of op_mod
def oPow : R2 := oI CPow fun i j => i ^ j.toNat
theorem o_pow {X : Cx} : OpR X (binaryOp .Pow) oPow := oI_of op_pow
def oAnd : R2 := oI0 fun i j => Builtin.bitAnd i j
theorem o_and {X : Cx} : OpR X (binaryOp .BitAnd) oAnd := oI0_of op_and
def oShl : R2 := oI CPow fun i j => i * 2 ^ j.toNat
theorem o_shl {X : Cx} : OpR X (binaryOp .LShift) oShl := oI_of op_shl
def oShr : R2 := oI (fun _ j => 0 ≤ j) fun i j => i / 2 ^ j.toNat
theorem o_shr {X : Cx} : OpR X (binaryOp .RShift) oShr := oI_of op_shr
def uNeg : V → Hp → VK → Prop := fun x H Q => match x with
  | .int i => Q (.int (-i)) H
  | _ => False
theorem u_neg {X : Cx} : UnR X (unaryOp .USub) uNeg := fun pins s σ H x v Q I rx q => by
  cases x <;> try exact q.elim
  exact un_neg pins s σ H _ v Q I rx ⟨_, rfl, q⟩
def oC (g : Int → Int → Bool) : R2 := fun x y H Q => int2 (fun i j => Q (.bl (g i j)) H) x y
theorem oC_of {X : Cx} {f : Value → Value → Sem Value} {g : Int → Int → Bool} (h : OpR X f (rI0 fun i j => .bl (g i j))) : OpR X f (oC g) := OpR.of h fun x y H Q q => by
  cases x <;> cases y <;> try exact q.elim
  exact ⟨_, _, rfl, rfl, q⟩
def oLt : R2 := oC fun i j => decide (i < j)
def oLe : R2 := oC fun i j => decide (i ≤ j)
def oGt : R2 := oC fun i j => decide (j < i)
def oGe : R2 := oC fun i j => decide (j ≤ i)
theorem o_lt {X : Cx} : OpR X (compareOp .Lt) oLt := oC_of op_lt
theorem o_le {X : Cx} : OpR X (compareOp .LtE) oLe := oC_of op_le
theorem o_gt {X : Cx} : OpR X (compareOp .Gt) oGt := oC_of op_gt
theorem o_ge {X : Cx} : OpR X (compareOp .GtE) oGe := oC_of op_ge
def oIsN : R2 := fun x y H Q => y = .non ∧ Q (.bl (match x with | .non => true | _ => false)) H
def oNotN : R2 := fun x y H Q => y = .non ∧ Q (.bl (match x with | .non => false | _ => true)) H
theorem o_isN {X : Cx} : OpR X (compareOp .Is) oIsN := OpR.of op_isN fun x y H Q q => ⟨q.1, by cases x <;> exact q.2⟩
theorem o_notN {X : Cx} : OpR X (compareOp .IsNot) oNotN := OpR.of op_notN fun x y H Q q => ⟨q.1, by cases x <;> exact q.2⟩
/-- two data compared -/
structure EqD (K : Frag) (H : Hp) (x y : V) (k : Bool → Prop) : Prop where
  ex : ∃ d e, Dp K H x d ∧ Dp K H y e ∧ SeqAt.shaped d = true ∧ SeqAt.shaped e = true ∧ k (PyData.eqv d e)
/-- == of scalars and of data -/
def oEq (K : Frag) : R2 := fun x y H Q => match x, y with
  | .int i, .int j => Q (.bl (decide (i = j))) H
  | .str i, .str j => Q (.bl (decide (i = j))) H
  | .bl i, .bl j => Q (.bl (decide (i = j))) H
  | .non, .non => Q (.bl true) H
  | .non, .int _ => Q (.bl false) H
  | .int _, .non => Q (.bl false) H
  | .non, .bl _ => Q (.bl false) H
  | .bl _, .non => Q (.bl false) H
  | .non, .str _ => Q (.bl false) H
  | .str _, .non => Q (.bl false) H
  | .int _, .str _ => Q (.bl false) H
  | .str _, .int _ => Q (.bl false) H
  | x, y => EqD K H x y fun b => Q (.bl b) H
def oNe (K : Frag) : R2 := fun x y H Q => oEq K x y H fun v H' => match v with
  | .bl b => Q (.bl (!b)) H'
  | _ => False
theorem o_eq {X : Cx} (hu : X.A.units + 64 < cLine) : OpR X (compareOp .Eq) (oEq X.K) := OpR.of (op_eq.or (op_eqD hu)) fun x y H Q q => by
  cases x <;> cases y <;> first
    | exact .inr q.ex
    | (refine .inl ⟨rfl, ?_⟩; refine Eq.mp (congrArg (fun b => Q (V.bl b) H) ?_) q; simp)
theorem o_ne {X : Cx} (hu : X.A.units + 64 < cLine) : OpR X (compareOp .NotEq) (oNe X.K) := OpR.of (op_ne.or (op_neD hu)) fun x y H Q q => by
  cases x <;> cases y <;> first
    | exact .inr q.ex
    | (refine .inl ⟨rfl, ?_⟩; refine Eq.mp (congrArg (fun b => Q (V.bl b) H) ?_) q; simp)
/-! ### comparisons as tests, chains -/
def isB (Q : Bool → Hp → Prop) : VK := fun z H => match z with
  | .bl k => Q k H
  | _ => False
theorem isB_ex {Q : Bool → Hp → Prop} {z : V} {H : Hp} (h : isB Q z H) : ∃ k, z = .bl k ∧ Q k H := by
  cases z <;> try exact h.elim
  exact ⟨_, rfl, h⟩
def dCmpT (r : R2) (ta tb : TE) : TT := fun σ H Q => ta σ H fun x H1 => tb σ H1 fun y H2 => r x y H2 (isB Q)
theorem pt_cmp {X : Cx} {op : CmpOp} {a b : Expr} {ta tb : TE} {pos : Pos} {r : R2} (ho : OpR X (compareOp op) r) (ha : PE X a ta) (hb : PE X b tb) (hm : behindInMarks op b = false) : PT X (.Compare a [op] [b] pos) (dCmpT r ta tb) := by
  refine ⟨fun pins s σ H Q I h => ?_⟩
  refine wpAny_isTrue_Compare1 (thn (ha.run pins s σ H _ I h) fun v s1 ⟨x, H1, I1, r1, q1⟩ => thn (hb.run pins s1 σ H1 _ I1 q1) fun u s2 ⟨y, H2, I2, r2, q2⟩ =>
    thn (ho pins s2 σ H2 x y v u _ I2 r1 r2 q2) fun c s3 ⟨z, H3, I3, r3, q3⟩ => ?_) hm
  obtain ⟨k, e, q3⟩ := isB_ex q3
  subst e
  cases r3
  exact wpAny_truthy_bool ⟨H3, I3, q3⟩
def dChain (r r' : R2) (ta tb tc : TE) : TE := fun σ H Q => ta σ H fun x H1 => tb σ H1 fun y H2 => r x y H2 (isB fun k H3 => bIf k (tc σ H3 fun w' H4 => r' y w' H4 Q) (Q (.bl false) H3))
def dChainT (r r' : R2) (ta tb tc : TE) : TT := fun σ H Q => dChain r r' ta tb tc σ H (isB Q)
theorem pe_cmp {X : Cx} {op : CmpOp} {a b : Expr} {ta tb : TE} {pos : Pos} {r : R2} (ho : OpR X (compareOp op) r) (ha : PE X a ta) (hb : PE X b tb) (hm : behindInMarks op b = false) : PE X (.Compare a [op] [b] pos) (tOp r ta tb) := pe_cmpR ho ha hb hm
theorem pe_chain {X : Cx} {op op' : CmpOp} {a b c : Expr} {r r' : R2} {ta tb tc : TE} {pos : Pos} (ho : OpR X (compareOp op) r) (ho' : OpR X (compareOp op') r') (ha : PE X a ta) (hb : PE X b tb) (hc : PE X c tc)
    (hm : lastMarks [op, op'] [b, c] = false := by with_unfolding_all rfl) : PE X (.Compare a [op, op'] [b, c] pos) (dChain r r' ta tb tc) := by
  refine ⟨fun pins s σ H Q I h => ?_⟩
  refine Compare_chain (thn (ha.run pins s σ H _ I h) fun v s1 ⟨x, H1, I1, r1, q1⟩ => chain_link (thn (hb.run pins s1 σ H1 _ I1 q1) fun u s2 ⟨y, H2, I2, r2, q2⟩ =>
    thn (ho pins s2 σ H2 x y v u _ I2 r1 r2 q2) fun d s3 ⟨z, H3, I3, r3, q3⟩ => ?_)) hm
  obtain ⟨k, e, q3⟩ := isB_ex q3
  subst e
  cases r3
  refine wpAny_truthy_bool ?_
  cases k with
  | false => exact ite_ff ⟨.bl false, H3, I3, rfl, q3⟩
  | true => exact ite_tt (chain_last (thn (hc.run pins s3 σ H3 _ I3 q3) fun w' s4 ⟨z', H4, I4, r4, q4⟩ => ho' pins s4 σ H4 y z' u w' Q I4 r2 r4 q4))
theorem pt_chain {X : Cx} {op op' : CmpOp} {a b c : Expr} {r r' : R2} {ta tb tc : TE} {pos : Pos} (ho : OpR X (compareOp op) r) (ho' : OpR X (compareOp op') r') (ha : PE X a ta) (hb : PE X b tb) (hc : PE X c tc)
    (hm : lastMarks [op, op'] [b, c] = false := by with_unfolding_all rfl) : PT X (.Compare a [op, op'] [b, c] pos) (dChainT r r' ta tb tc) := by
  refine ⟨fun pins s σ H Q I h => ?_⟩
  refine isTrue_chain (thn (ha.run pins s σ H _ I h) fun v s1 ⟨x, H1, I1, r1, q1⟩ => test_link (thn (hb.run pins s1 σ H1 _ I1 q1) fun u s2 ⟨y, H2, I2, r2, q2⟩ =>
    thn (ho pins s2 σ H2 x y v u _ I2 r1 r2 q2) fun d s3 ⟨z, H3, I3, r3, q3⟩ => ?_)) hm
  obtain ⟨k, e, q3⟩ := isB_ex q3
  subst e
  cases r3
  refine wpAny_truthy_bool ?_
  cases k with
  | false => exact ite_ff ⟨H3, I3, q3⟩
  | true =>
    refine ite_tt (test_last (thn (hc.run pins s3 σ H3 _ I3 q3) fun w' s4 ⟨z', H4, I4, r4, q4⟩ => thn (ho' pins s4 σ H4 y z' u w' _ I4 r2 r4 q4) fun d' s5 ⟨z2, H5, I5, r5, q5⟩ => ?_))
    obtain ⟨k2, e2, q5⟩ := isB_ex q5
    subst e2
    cases r5
    exact wpAny_truthy_bool ⟨H5, I5, q5⟩
theorem pw_and {X : Cx} {a b : Expr} {rest : List Expr} {tA tB' : TT} {pos : Pos} (ha : PT X a tA) (hb : PW X (.BoolOp .And (b :: rest) pos) tB') : PW X (.BoolOp .And (a :: b :: rest) pos) (dAnd tA tB') := by
  refine ⟨fun wh pins s σ H Q I h => ?_⟩
  refine isTrue_and (thn (ha.run pins s σ H _ I h) fun c s1 ⟨H1, I1, q1⟩ => ?_)
  cases c with
  | true => exact hb.run wh pins s1 σ H1 Q I1 q1
  | false => exact ⟨H1, I1, q1⟩
theorem pw_or {X : Cx} {a b : Expr} {rest : List Expr} {tA tB' : TT} {pos : Pos} (ha : PT X a tA) (hb : PW X (.BoolOp .Or (b :: rest) pos) tB') : PW X (.BoolOp .Or (a :: b :: rest) pos) (dOr tA tB') := by
  refine ⟨fun wh pins s σ H Q I h => ?_⟩
  refine isTrue_or (thn (ha.run pins s σ H _ I h) fun c s1 ⟨H1, I1, q1⟩ => ?_)
  cases c with
  | true => exact ⟨H1, I1, q1⟩
  | false => exact hb.run wh pins s1 σ H1 Q I1 q1
theorem pt_not {X : Cx} {a : Expr} {tA : TT} {pos : Pos} (ha : PT X a tA) : PT X (.UnaryOp .Not a pos) (dNot tA) := L2.pt_not ha
theorem ps_if {X : Cx} {c : Expr} {a b : List Stmt} {tc : TT} {t u : TS} {pos : Pos} (hc : PT X c tc) (ha : PSs X a t) (hb : PSs X b u) : PS X (.If c a b pos) (dIfS tc t u) := by
  refine ⟨fun pins s σ H D I h => ?_⟩
  refine wpAny_If (thn (hc.run pins s σ H _ I h) fun d s1 ⟨H1, I1, q1⟩ => ?_)
  cases d with
  | true => exact ha.run pins s1 σ H1 D I1 q1
  | false => exact hb.run pins s1 σ H1 D I1 q1
/-- and, or as values: all but the last True or False -/
def dAndV (ta tb : TE) : TE := fun σ H Q => ta σ H (isB fun c H1 => bIf c (tb σ H1 Q) (Q (.bl false) H1))
def dNotV (ta : TE) : TE := fun σ H Q => ta σ H (isB fun c H1 => Q (.bl (!c)) H1)
theorem pe_and {X : Cx} {a b : Expr} {rest : List Expr} {ta tb : TE} {pos : Pos} (ha : PE X a ta) (hb : PE X (.BoolOp .And (b :: rest) pos) tb) : PE X (.BoolOp .And (a :: b :: rest) pos) (dAndV ta tb) := by
  refine ⟨fun pins s σ H Q I h => ?_⟩
  refine BoolOp_and (thn (ha.run pins s σ H _ I h) fun v s1 ⟨x, H1, I1, r1, q1⟩ => ?_)
  obtain ⟨c, e, q⟩ := isB_ex q1
  subst e
  cases r1
  refine wpAny_truthy_bool ?_
  cases c with
  | true => exact hb.run pins s1 σ H1 Q I1 q
  | false => exact ⟨.bl false, H1, I1, rfl, q⟩
theorem pe_not {X : Cx} {a : Expr} {ta : TE} {pos : Pos} (ha : PE X a ta) : PE X (.UnaryOp .Not a pos) (dNotV ta) := by
  refine ⟨fun pins s σ H Q I h => ?_⟩
  refine UnaryOp_ (thn (ha.run pins s σ H _ I h) fun v s1 ⟨x, H1, I1, r1, q1⟩ => ?_)
  obtain ⟨c, e, q⟩ := isB_ex q1
  subst e
  cases r1
  exact not_of (wpAny_truthy_bool ⟨.bl (!c), H1, I1, rfl, q⟩)
/-! ### subscripts, slices -/
/-- the sign at i -/
structure AtS (z : Str) (i : Int) (k : Nat → Prop) : Prop where
  ex : ∃ c, atI z.cps.toList i = some c ∧ k c
def oIx (K : Frag) : R2 := fun x y H Q => match x, y with
  | .ref p, .int i => Rd K H p fun xs => At xs i fun v => Q v H
  | .str z, .int i => Need (z.length ≤ sizeLine) (AtS z i fun c => Q (.str ⟨#[c]⟩) H)
  | _, _ => False
theorem ix_any {X : Cx} : IxR X (oIx X.K) := IxR.of ix_seq fun x y H Q q => by
  cases x <;> cases y <;> try exact q.elim
  · obtain ⟨hz, ⟨c, e, q⟩⟩ := q
    exact .inr (.inr ⟨_, _, c, rfl, rfl, hz, e, q⟩)
  · obtain ⟨⟨xs, hs, ⟨v, e, q⟩⟩⟩ := q
    rcases hs with hs | hs
    · exact .inl ⟨_, xs, _, v, rfl, rfl, hs, e, q⟩
    · exact .inr (.inl ⟨_, xs, _, v, rfl, rfl, hs, e, q⟩)
def dPart (t : TE) : TO := fun σ H Q => t σ H fun x H1 => match x with
  | .int i => Q (some i) H1
  | _ => False
theorem po_some {X : Cx} {e : Expr} {te : TE} (h : PE X e te) : PO X (some e) (dPart te) := by
  refine ⟨fun pins s σ H Q I q => ?_⟩
  rw [evalPart_some]
  refine thn (h.run pins s σ H _ I q) fun u s1 ⟨x, H1, I1, r1, q1⟩ => ?_
  cases x <;> try exact q1.elim
  obtain ⟨t, rfl⟩ := r1
  exact ⟨_, H1, I1, .int _ t, q1⟩
/-- a slice of the list, of the tuple at p -/
structure Cut (K : Frag) (H : Hp) (p : Addr) (lo hi : Option Int) (Q : V → Hp → Prop) : Prop where
  ex : (∃ xs, SqL K H p xs ∧ ∀ q, H q = none → Q (.ref q) (upd H q (.lst (cutV xs lo hi)))) ∨ (∃ xs, SqT K H p xs ∧ ∀ q H', Same H H' → SqT K H' q (cutV xs lo hi) → Q (.ref q) H')
theorem Cut.l {K : Frag} {H : Hp} {p : Addr} {lo hi : Option Int} {Q : V → Hp → Prop} {xs : List V} (h : SqL K H p xs) (q : ∀ q, H q = none → Q (.ref q) (upd H q (.lst (cutV xs lo hi)))) : Cut K H p lo hi Q := ⟨.inl ⟨xs, h, q⟩⟩
theorem Cut.t {K : Frag} {H : Hp} {p : Addr} {lo hi : Option Int} {Q : V → Hp → Prop} {xs : List V} (h : SqT K H p xs) (q : ∀ q H', Same H H' → SqT K H' q (cutV xs lo hi) → Q (.ref q) H') : Cut K H p lo hi Q := ⟨.inr ⟨xs, h, q⟩⟩
def oSl (K : Frag) : V → Option Int → Option Int → Hp → VK → Prop := fun x lo hi H Q => match x with
  | .ref p => Cut K H p lo hi Q
  | _ => False
theorem SlR.of {X : Cx} {r r' : V → Option Int → Option Int → Hp → VK → Prop} (h : SlR X r) (i : ∀ x l u H Q, r' x l u H Q → r x l u H Q) : SlR X r' := fun pins s σ H x v vl vu lo hi sl Q I rx hs pl pu q => h pins s σ H x v vl vu lo hi sl Q I rx hs pl pu (i x lo hi H Q q)
theorem cut_whole {xs : List V} {lo hi : Option Int} (h : HT.sIx xs.length 0 lo = 0 ∧ HT.sIx xs.length xs.length hi = xs.length) : cutV xs lo hi = xs := by
  unfold cutV
  rw [h.1, h.2]
  simp
theorem sl_any {X : Cx} : SlR X (oSl X.K) := SlR.of (sl_list.or sl_tupA) fun x lo hi H Q q => by
  cases x <;> try exact q.elim
  rcases q.ex with ⟨xs, h, q⟩ | ⟨xs, h, q⟩
  · exact .inl ⟨_, xs, rfl, h, q⟩
  · refine .inr ⟨_, xs, rfl, h, fun w => ?_, fun _ p hp => q _ _ (same_new hp) (SqT.of upd_same)⟩
    exact q _ _ (Same.refl _) (by rw [cut_whole w]; exact h)
/-! ### displays -/
def dLst (t : TA) : TE := fun σ H Q => t σ H fun xs H1 => Need (xs.length ≤ sizeLine) (NewL H1 xs Q)
def dTup (K : Frag) (t : TA) : TE := fun σ H Q => t σ H fun xs H1 => Need (xs.length ≤ sizeLine) (NewT K H1 xs Q)
theorem pe_tup {X : Cx} {es : List Expr} {t : TA} {x1} {pos : Pos} (h : PA X es t) : PE X (.Tuple es x1 pos) (dTup X.K t) := by
  refine ⟨fun pins s σ H Q I hq => ?_⟩
  refine wpAny_Tuple_spliced (thn (h.run pos pins s σ H _ I hq) fun us s1 ⟨xs, H1, I1, r, ⟨z, ⟨q⟩⟩⟩ => ⟨by rw [← r.length]; exact z, ?_⟩)
  have hf : H1 s1.heap.objs.size = none := I1.hok.fresh (Nat.le_refl _)
  refine ⟨.ref s1.heap.objs.size, upd H1 s1.heap.objs.size (.tup xs), I1.laid (t' := s1.toks) (fun b u e => Heap.get?_push_of_some _ e) (Nat.le_refl _) ?_, rfl, q _ _ (same_new hf) (SqT.of upd_same)⟩
  exact ⟨z, us, r, ⟨_, Heap.get?_push_size _ rfl, rfl, _, rfl⟩⟩
theorem pe_lst {X : Cx} {es : List Expr} {t : TA} {pos : Pos} (h : PA X es t) : PE X (.List es pos) (dLst t) := by
  refine ⟨fun pins s σ H Q I hq => ?_⟩
  refine wpAny_List_spliced (thn (h.run pos pins s σ H _ I hq) fun us s1 ⟨xs, H1, I1, r, ⟨z, ⟨q⟩⟩⟩ => ⟨by rw [← r.length]; exact z, ?_⟩)
  have hf : H1 s1.heap.objs.size = none := I1.hok.fresh (Nat.le_refl _)
  refine ⟨.ref s1.heap.objs.size, upd H1 s1.heap.objs.size (.lst xs), I1.laid (t' := s1.toks) (fun b u e => Heap.get?_push_of_some _ e) (Nat.le_refl _) ?_, rfl, q _ hf⟩
  exact ⟨z, us, 0, r, Heap.get?_push_size _ rfl⟩
/-! ### builtin calls -/
def cLen (K : Frag) : List V → Hp → VK → Prop := fun xs H Q => match xs with
  | [.str z] => Need (z.length ≤ sizeLine) (Q (.int z.length) H)
  | [.ref p] => Rd K H p fun ys => Q (.int ys.length) H
  | _ => False
theorem c_len {X : Cx} : CallR X (.builtin "len") (cLen X.K) := CallR.of (call_len_seq.or call_len_str) fun xs H Q q => by
  match xs, q with
  | [.str z], q => exact .inr ⟨z, rfl, q.c, q.q⟩
  | [.ref p], ⟨⟨ys, h, q⟩⟩ => exact .inl ⟨p, ys, rfl, h, q⟩
def cTuple (K : Frag) : List V → Hp → VK → Prop := fun xs H Q => match xs with
  | [.ref p] => Rd K H p fun ys => NewT K H ys Q
  | _ => False
theorem c_tuple {X : Cx} : CallR X (.type "tuple") (cTuple X.K) := CallR.of call_tuple_of fun xs H Q q => by
  match xs, q with
  | [.ref p], ⟨⟨ys, h, ⟨q⟩⟩⟩ =>
    refine ⟨p, ys, rfl, ?_⟩
    rcases h with h | h
    · exact .inl ⟨h, fun l hl => q _ _ (same_new hl) (SqT.of upd_same)⟩
    · exact .inr ⟨h, q _ _ (Same.refl _) h⟩
def cList (K : Frag) : List V → Hp → VK → Prop := fun xs H Q => match xs with
  | [.ref p] => Rd K H p fun ys => NewL H ys Q
  | _ => False
theorem c_list {X : Cx} : CallR X (.type "list") (cList X.K) := CallR.of call_list_of fun xs H Q q => by
  match xs, q with
  | [.ref p], ⟨⟨ys, h, ⟨q⟩⟩⟩ => exact ⟨p, ys, rfl, h, q⟩
def b2i (b : Bool) : Int := match b with
  | true => 1
  | false => 0
def cInt : List V → Hp → VK → Prop := fun xs H Q => match xs with
  | [.int i] => Q (.int i) H
  | [.bl b] => Q (.int (b2i b)) H
  | _ => False
theorem c_int {X : Cx} : CallR X (.type "int") cInt := CallR.of call_int1 fun xs H Q q => by
  match xs, q with
  | [.int i], q => exact .inl ⟨_, rfl, q⟩
  | [.bl b], q =>
    refine .inr ⟨_, rfl, ?_⟩
    cases b <;> exact q
def cAbs : List V → Hp → VK → Prop := fun xs H Q => match xs with
  | [.int i] => Q (.int (i.natAbs : Int)) H
  | _ => False
theorem c_abs {X : Cx} : CallR X (.builtin "abs") cAbs := CallR.of call_abs fun xs H Q q => by
  match xs, q with
  | [.int i], q =>
    refine ⟨_, rfl, ?_⟩
    have e : (if i < 0 then -i else i) = (i.natAbs : Int) := by split <;> omega
    rw [e]; exact q
/-- isinstance(x, T), one class -/
structure Isi (K : Frag) (H : Hp) (x : V) (u : Value) (k : Bool → Prop) : Prop where
  ex : (∃ t b, TyX K H x t ∧ PySem.W.kitOne K t u = some b ∧ k b) ∨ (∃ a C dx vs b, x = .ref a ∧ SlX.Slt H a C dx vs ∧ SlX.SCls K C ∧ SlX.SIsi K C ∧ PySem.W.kitOne K (.ref C) u = some b ∧ k b)
theorem Isi.of {K : Frag} {H : Hp} {x : V} {u t : Value} {b : Bool} {k : Bool → Prop} (h : TyX K H x t) (e : PySem.W.kitOne K t u = some b) (q : k b) : Isi K H x u k := ⟨.inl ⟨t, b, h, e, q⟩⟩
def cIsi (K : Frag) : List V → Hp → VK → Prop := fun xs H Q => match xs with
  | [x, .ty n] => Isi K H x (.type n) fun b => Q (.bl b) H
  | [x, .ref C] => Isi K H x (.ref C) fun b => Q (.bl b) H
  | _ => False
theorem c_isi {X : Cx} : CallR X (.builtin "isinstance") (cIsi X.K) := by
  intro pins s σ H xs us Q I r q
  match xs, q with
  | [x, .ty n], ⟨.inl ⟨t, b, h1, h2, q⟩⟩ => exact call_isi pins s σ H _ us Q I r ⟨x, _, t, _, b, rfl, .ty n, h1, h2, q⟩
  | [x, .ref C], ⟨.inl ⟨t, b, h1, h2, q⟩⟩ => exact call_isi pins s σ H _ us Q I r ⟨x, _, t, _, b, rfl, .own C, h1, h2, q⟩
  | [x, .ty n], ⟨.inr ⟨a, C, dx, vs, b, e, h1, h2, h3, h4, q⟩⟩ =>
    subst e
    exact SlX.call_isiSl (.type n) pins s σ H _ us Q I r ⟨a, C, dx, vs, _, b, rfl, rfl, fun w z => z, h1, h2, h3, h4, q⟩
  | [x, .ref D], ⟨.inr ⟨a, C, dx, vs, b, e, h1, h2, h3, h4, q⟩⟩ =>
    subst e
    exact SlX.call_isiSl (.ref D) pins s σ H _ us Q I r ⟨a, C, dx, vs, _, b, rfl, rfl, fun w z => z, h1, h2, h3, h4, q⟩
/-! ### methods of lists -/
/-- a list stands at p -/
structure IsL (K : Frag) (H : Hp) (p : Addr) (q : Prop) : Prop where
  ex : ∃ xs, SqL K H p xs
  q : q
theorem IsL.of {K : Frag} {H : Hp} {p : Addr} {q : Prop} {xs : List V} (h : H p = some (.lst xs)) (q1 : q) : IsL K H p q := ⟨⟨xs, SqL.of h⟩, q1⟩
def dML (K : Frag) (r : V → List V → Hp → VK → Prop) (to : TE) (t : TA) : TE := fun σ H Q => to σ H fun x H1 => match x with
  | .ref l => IsL K H1 l (t σ H1 fun vs H2 => r (.ref l) vs H2 Q)
  | _ => False
theorem pe_ml {X : Cx} {o e : Expr} {es : List Expr} {to : TE} {t : TA} {name : Str} {apos cpos : Pos} {id : String} {r : V → List V → Hp → VK → Prop} (slot : Slot "list" name id) (hty : typeOf (.builtin id) = pure (.type "method_descriptor")) (hm : MtR X id r) (ho : PE X o to) (ha : PA X (e :: es) t)
    (hbase : attributeBase o name X.env (eval o X.env) = eval o X.env := by rfl)
    (hfew : ((backTo cpos (starEach (e :: es) X.env)).all (fun x => !x.1) && (backToKw cpos (keywordEach [] X.env)).all (fun x => x.1.isSome)
      && decide ((e :: es).length + ([] : List Keyword).length + (if ([] : List Keyword).isEmpty then 0 else 1) < 30)) = true := by rfl)
    (hline : (apos.endLine == cpos.line) = true := by rfl) (hs : starEach (e :: es) X.env = (false, eval e X.env) :: starEach es X.env := by rfl) (hplain : (backTo cpos (starEach es X.env)).any (·.1) = false := by rfl) :
    PE X (.Call (.Attribute o name apos) (e :: es) [] cpos) (dML X.K r to t) := by
  refine ⟨fun pins s σ H Q I h => ?_⟩
  refine wpAny_Call_method_late hbase hfew hline rfl (thn (ho.run pins s σ H _ I h) fun v s1 ⟨x, H1, I1, r1, q1⟩ => ?_)
  cases x <;> try exact q1.elim
  obtain ⟨hx, q1⟩ := q1
  obtain ⟨h1, h2⟩ := tyV_is (T := "list") I1 r1 (.inl ⟨rfl, hx⟩)
  refine ⟨"list", id, PySem.F.plainAttrs_list, slot, hty, h1, h2, ?_⟩
  have hA := ha.run cpos pins s1 σ H1 _ I1 q1
  rw [hs] at hA ⊢
  refine Calls.callWith_builtin (by show (false || (backTo cpos (starEach es X.env)).any (·.1)) = false; rw [hplain] <;> rfl) (Calls.evalArgs_plain ?_)
  exact thn hA fun us s2 ⟨vs, H2, I2, r2, q2⟩ => hm pins s2 σ H2 _ vs _ us Q I2 r1 r2 q2
theorem MtR.of {X : Cx} {id : String} {r r' : V → List V → Hp → VK → Prop} (h : MtR X id r) (i : ∀ x xs H Q, r' x xs H Q → r x xs H Q) : MtR X id r' := fun pins s σ H x xs v us Q I rx rs q => h pins s σ H x xs v us Q I rx rs (i x xs H Q q)
abbrev M2 := V → List V → Hp → VK → Prop
/-- the list at x changed -/
def mL (f : List V → List V → Hp → (V → List V → Prop) → Prop) : M2 := fun x vs H Q => match x with
  | .ref l => Ls H l fun xs => f xs vs H fun z ys => Q z (upd H l (.lst ys))
  | _ => False
def mApp : M2 := mL fun xs vs _ k => match vs with
  | [y] => Need (xs.length < sizeLine) (k .non (xs ++ [y]))
  | _ => False
theorem m_app {X : Cx} : MtR X "list.append" mApp := MtR.of mt_append fun x vs H Q q => by
  cases x <;> try exact q.elim
  match vs, q with
  | [y], ⟨⟨xs, h, ⟨hz, q⟩⟩⟩ => exact ⟨_, xs, y, rfl, rfl, h, hz, q⟩
/-! ### stores -/
/-- the place i in n -/
structure Pl (n : Nat) (i : Int) (k : Nat → Prop) : Prop where
  ex : ∃ j, ixN n i = some j ∧ k j
theorem Pl.of {n : Nat} {i : Int} {k : Nat → Prop} {j : Nat} (h : ixN n i = some j) (q : k j) : Pl n i k := ⟨j, h, q⟩
def oSet : V → V → V → Hp → (Hp → Prop) → Prop := fun o i v H Q => match o, i with
  | .ref p, .int k => Ls H p fun xs => Pl xs.length k fun j => Q (upd H p (.lst (xs.set j v)))
  | _, _ => False
theorem s_list {X : Cx} : PSet X oSet := fun pins s σ H o i v uo ui uv Q I ro ri rv q => by
  cases o <;> cases i <;> try exact q.elim
  obtain ⟨⟨xs, h, ⟨j, e, q⟩⟩⟩ := q
  exact set_list pins s σ H _ _ v uo ui uv Q I ro ri rv ⟨_, xs, _, j, rfl, rfl, h, e, q⟩
/-! ### loops over a list or a tuple -/
/-- the list or the tuple at a is walked -/
structure Walk (K : Frag) (H : Hp) (a : Addr) (R : It → Hp → Prop) : Prop where
  ex : ((∃ xs, SqL K H a xs) ∧ R (Itl K a) H) ∨ ((∃ xs, SqT K H a xs) ∧ R (Itt K a) H)
def iSm (K : Frag) (x : V) (H : Hp) (R : It → Hp → Prop) : Prop := match x with
  | .ref a => Walk K H a R
  | _ => False
def iSeq (K : Frag) (tl : TE) : TI := fun σ H R => tl σ H fun x H1 => iSm K x H1 R
theorem pi_seq {X : Cx} {tg l : Expr} {tl : TE} (hl : PE X l tl) : PI X tg l (iSeq X.K tl) := by
  refine ⟨fun pins s σ H R I h => ?_⟩
  refine thn (hl.run pins s σ H _ I h) fun v s1 ⟨x, H1, I1, r1, q1⟩ => ?_
  cases x <;> try exact q1.elim
  cases r1
  rcases q1.ex with ⟨⟨xs, hq⟩, q⟩ | ⟨⟨xs, hq⟩, q⟩
  · obtain ⟨its, rv, p, hz⟩ := I1.list hq
    refine wpAny_pyIter_list p.isList ?_
    refine ⟨s1.heap.objs.size, [s1.heap.objs.size], _, _, H1, rfl, I1.kept (t' := s1.toks) fun b o e => Heap.get?_push_of_some _ e, turn_list _ _, ⟨_, Heap.get?_push_size _ rfl, rfl, rfl⟩, fun b hb => ?_, q⟩
    have e : b = s1.heap.objs.size := by simpa using hb
    subst e
    exact I1.fpOk (Nat.le_refl _) (I1.hok.fresh (Nat.le_refl _))
  · obtain ⟨its, rv, p, hz⟩ := I1.tuple hq
    refine wpAny_pyIter_tuple (show s1.heap.IsTuple _ its.toArray from p) ?_
    refine ⟨s1.heap.objs.size, [s1.heap.objs.size], _, _, H1, rfl, I1.kept (t' := s1.toks) fun b o e => Heap.get?_push_of_some _ e, turn_tuple _ _, ⟨_, Heap.get?_push_size _ rfl, rfl, rfl⟩, fun b hb => ?_, q⟩
    have e : b = s1.heap.objs.size := by simpa using hb
    subst e
    exact I1.fpOk (Nat.le_refl _) (I1.hok.fresh (Nat.le_refl _))
/-- what a loop asks of its walk -/
def LoopR (D : Ends) (g : TG) (tb : TS) (σ : L2.St) : It → Hp → Prop := fun J H1 => ∃ W : Nat → Nat → L2.St → Hp → Prop, (∃ m, W 0 m σ H1) ∧ ∀ i m σ H, W i m σ H →
  (J.stop i H ∧ D.nx σ H) ∨ (J.go i H ∧ ∃ N : L2.St → Hp → Prop, (∀ σ' H', N σ' H' → ∃ m', m' < m ∧ W (i + 1) m' σ' H') ∧ ∀ x H', J.yld i H x H' → g x σ H' fun σ2 H2 => tb { D with nx := N, ct := N, bk := D.nx } σ2 H2)
def dFor (wi : TI) (g : TG) (tb : TS) : TS := fun D σ H => wi σ H (LoopR D g tb σ)
theorem ps_for {X : Cx} {tg iter : Expr} {body : List Stmt} {wi : TI} {g : TG} {tb : TS} {pos : Pos} (hp : PassesOwn (model X.prog X.w) X.A X.env X.xe) (hc : X.calm = true) (hi : PI X tg iter wi) (hg : PG X tg g) (hb : PSs X body tb)
    (hs : ∀ x, foldedSetIterable iter X.env x = pure x := by intro _; rfl) : PS X (.For tg iter body [] pos) (dFor wi g tb) := L2.ps_for hp hc hi hg hb hs
/-- the sequence at p stands as it stood -/
def Stay (K : Frag) (p : Addr) (H H' : Hp) : Prop := ∀ xs, (SqL K H p xs → SqL K H' p xs) ∧ (SqT K H p xs → SqT K H' p xs)
theorem Same.tup {K : Frag} {H H' : Hp} {a : Addr} {xs : List V} (e : Same H H') (h : SqT K H a xs) : SqT K H' a xs := by
  rcases h with (h | ⟨o, h⟩) | h
  · exact .inl (.inl (e _ _ h))
  · exact .inl (.inr ⟨o, e _ _ h⟩)
  · exact .inr h
theorem Same.sqa {K : Frag} {H H' : Hp} {a : Addr} {xs : List V} (e : Same H H') (h : SqA K H a xs) : SqA K H' a xs := h.imp e.seq (Same.tup e)
theorem Same.stay {K : Frag} {H H' : Hp} {a : Addr} (e : Same H H') : Stay K a H H' := fun _ => ⟨e.seq, Same.tup e⟩
/-- all but what stands at st stays -/
def SameX (st : Addr) (H H' : Hp) : Prop := ∀ b o, H b = some o → b ≠ st → H' b = some o
theorem SameX.refl (st : Addr) (H : Hp) : SameX st H H := fun _ _ h _ => h
theorem SameX.trans {st : Addr} {H H1 H2 : Hp} (a : SameX st H H1) (b : SameX st H1 H2) : SameX st H H2 := fun c o h n => b c o (a c o h n) n
theorem SameX.then {st : Addr} {H H1 H2 : Hp} (a : SameX st H H1) (b : Same H1 H2) : SameX st H H2 := fun c o h n => b c o (a c o h n)
theorem Same.thenX {st : Addr} {H H1 H2 : Hp} (a : Same H H1) (b : SameX st H1 H2) : SameX st H H2 := fun c o h n => b c o (a c o h) n
theorem Same.x {st : Addr} {H H1 : Hp} (a : Same H H1) : SameX st H H1 := fun c o h _ => a c o h
theorem SameX.upd {st : Addr} {H : Hp} {o : HO} : SameX st H (upd H st o) := fun b u h n => by rw [upd_ne n]; exact h
/-- what st was made behind H0 -/
theorem SameX.same {st : Addr} {H0 H H' : Hp} (a : Same H0 H) (b : SameX st H H') (n : H0 st = none) : Same H0 H' := fun c o h => b c o (a c o h) (ne_of_none h n)
theorem SameX.seq {K : Frag} {st : Addr} {H H' : Hp} {a : Addr} {xs : List V} (e : SameX st H H') (h : SqL K H a xs) (n : a ≠ st) : SqL K H' a xs := by
  rcases h with (h | ⟨o, h⟩) | h
  · exact .inl (.inl (e _ _ h n))
  · exact .inl (.inr ⟨o, e _ _ h n⟩)
  · exact .inr h
theorem SameX.tup {K : Frag} {st : Addr} {H H' : Hp} {a : Addr} {xs ys : List V} (e : SameX st H H') (h : SqT K H a xs) (hst : H st = some (.lst ys)) : SqT K H' a xs := by
  rcases h with (h | ⟨o, h⟩) | h
  · exact .inl (.inl (e _ _ h (ne_of h hst (by intro z; cases z))))
  · exact .inl (.inr ⟨o, e _ _ h (ne_of h hst (by intro z; cases z))⟩)
  · exact .inr h
theorem sl_upd {K : Frag} {H : Hp} {a p : Addr} {o : HO} {xs : List V} (h : SqL K H a xs) (n : a ≠ p) : SqL K (upd H p o) a xs := by
  rcases h with (h | ⟨u, h⟩) | h
  · exact .inl (.inl (by rw [upd_ne n]; exact h))
  · exact .inl (.inr ⟨u, by rw [upd_ne n]; exact h⟩)
  · exact .inr h
theorem st_upd {K : Frag} {H : Hp} {a p : Addr} {o : HO} {xs : List V} (h : SqT K H a xs) (n : a ≠ p) : SqT K (upd H p o) a xs := by
  rcases h with (h | ⟨u, h⟩) | h
  · exact .inl (.inl (by rw [upd_ne n]; exact h))
  · exact .inl (.inr ⟨u, by rw [upd_ne n]; exact h⟩)
  · exact .inr h
theorem up_of {H : Hp} {a p : Addr} {o u : HO} (n : a ≠ p) (h : H a = some u) : upd H p o a = some u := by rw [upd_ne n]; exact h
theorem SameX.put {st : Addr} {H0 H1 : Hp} {o : HO} (e : SameX st H0 H1) : SameX st H0 (L2.upd H1 st o) := e.trans SameX.upd
theorem appS {K : Frag} {H H1 : Hp} {a st : Addr} {xs : List V} (h : ∀ H1, SameX st H H1 → SqL K H1 a xs) (e : SameX st H H1) : SqL K H1 a xs := h H1 e
/-- over a list or a tuple that the body leaves as it is -/
theorem for_seq {K : Frag} {p : Addr} {xs : List V} {g : TG} {tb : TS} {D : Ends} {σ : L2.St} {H : Hp} (Pv : Nat → L2.St → Hp → Prop) (hx : SqA K H p xs) (h0 : Pv 0 σ H) (hl : ∀ i σ H', i ≤ xs.length → Pv i σ H' → Stay K p H H')
    (hs : ∀ i x σ H, xs[i]? = some x → Pv i σ H → g x σ H fun σ2 H2 => tb { D with nx := Pv (i + 1), ct := Pv (i + 1), bk := D.nx } σ2 H2) (hd : ∀ σ H, Pv xs.length σ H → D.nx σ H) :
    Walk K H p (LoopR D g tb σ) := by
  rcases hx with hx | hx
  · exact ⟨.inl ⟨⟨xs, hx⟩, for_list Pv h0 (fun i σ H' hi q => (hl i σ H' hi q xs).1 hx) hs hd⟩⟩
  · exact ⟨.inr ⟨⟨xs, hx⟩, for_tup Pv h0 (fun i σ H' hi q => (hl i σ H' hi q xs).2 hx) hs hd⟩⟩
/-! ### ranges -/
def iR1 (vs : List V) (H : Hp) (R : It → Hp → Prop) : Prop := match vs with
  | [.int j] => Need (-(2 ^ 62) ≤ j ∧ j < 2 ^ 62) (R (Itr 0 j.toNat) H)
  | _ => False
def iRng (ta : TA) : TI := fun σ H R => ta σ H fun vs H1 => iR1 vs H1 R
theorem pi_rng {X : Cx} {tg a : Expr} {ta : TA} {p pos : Pos} (hg : Gl X "range") (hm : X.mg "range" = none) (ha : PA X [a] ta) (hs : starEach [a] X.env = [(false, eval a X.env)] := by rfl) : PI X tg (.Call (.Name "range" p) [a] [] pos) (iRng ta) := by
  refine ⟨fun pins s σ H R I h => ?_⟩
  refine Call_ (ld_blt I hg hm boot_range (PyProof.Rows.callWith_type1 (thn (ha.run pos pins s σ H _ I h) fun us s1 ⟨vs, H1, I1, r1, q1⟩ => ?_) hs rfl))
  match vs, q1 with
  | [.int j], ⟨⟨q1, q2⟩, q⟩ =>
    cases r1 with
    | cons r rr =>
      cases rr
      obtain ⟨t, rfl⟩ := r
      exact call_range_1 (range_it I1 (by omega) (by omega) q1 q2 (by simpa using q))
def iR2 (vs : List V) (H : Hp) (R : It → Hp → Prop) : Prop := match vs with
  | [.int i, .int j] => Need (-(2 ^ 62) ≤ i ∧ i < 2 ^ 62 ∧ -(2 ^ 62) ≤ j ∧ j < 2 ^ 62) (R (Itr i (j - i).toNat) H)
  | _ => False
def iRngB (ta : TA) : TI := fun σ H R => ta σ H fun vs H1 => iR2 vs H1 R
theorem pi_rngB {X : Cx} {tg a b : Expr} {ta : TA} {p pos : Pos} (hg : Gl X "range") (hm : X.mg "range" = none) (ha : PA X [a, b] ta) (hs : starEach [a, b] X.env = [(false, eval a X.env), (false, eval b X.env)] := by rfl) (hs2 : starEach [b] X.env = [(false, eval b X.env)] := by rfl) :
    PI X tg (.Call (.Name "range" p) [a, b] [] pos) (iRngB ta) := by
  refine ⟨fun pins s σ H R I h => ?_⟩
  refine Call_ (ld_blt I hg hm boot_range (PyProof.Rows.callWith_type1 (thn (ha.run pos pins s σ H _ I h) fun us s1 ⟨vs, H1, I1, r1, q1⟩ => ?_) (by rw [hs, hs2]) (by rw [hs2]; rfl)))
  match vs, q1 with
  | [.int i, .int j], ⟨⟨q1, q2, q3, q4⟩, q⟩ =>
    cases r1 with
    | cons r rr =>
      cases rr with
      | cons r' rr =>
        cases rr
        obtain ⟨t, rfl⟩ := r
        obtain ⟨t', rfl⟩ := r'
        exact call_range_2 (range_it I1 q1 q2 q3 q4 q)
theorem for_rng {n : Int} {g : TG} {tb : TS} {D : Ends} {σ : L2.St} {H : Hp} (Pv : Nat → L2.St → Hp → Prop) (h0 : Pv 0 σ H)
    (hs : ∀ (i : Nat) σ H, (i : Int) < n → Pv i σ H → g (.int i) σ H fun σ2 H2 => tb { D with nx := Pv (i + 1), ct := Pv (i + 1), bk := D.nx } σ2 H2) (hd : ∀ σ H, Pv n.toNat σ H → D.nx σ H) :
    LoopR D g tb σ (Itr 0 n.toNat) H := by
  refine L2.for_range (lo := 0) Pv h0 (fun i σ H hi q => ?_) hd
  have z := hs i σ H (by omega) q
  rw [Int.zero_add]; exact z
/-! ### while -/
def WhileR (c : TT) (tb : TS) (D : Ends) (σ : L2.St) (H : Hp) : Prop := ∃ W : Nat → L2.St → Hp → Prop, (∃ m, W m σ H) ∧ ∀ m σ H, W m σ H →
  c σ H fun b H1 => bIf b (tb { D with nx := fun σ' H' => ∃ m', m' < m ∧ W m' σ' H', ct := fun σ' H' => ∃ m', m' < m ∧ W m' σ' H', bk := D.nx } σ H1) (D.nx σ H1)
structure Loop (c : TT) (tb : TS) (D : Ends) (σ : L2.St) (H : Hp) : Prop where
  ex : WhileR c tb D σ H
def dWhile (c : TT) (tb : TS) : TS := fun D σ H => Loop c tb D σ H
theorem ps_while {X : Cx} {c : Expr} {body : List Stmt} {tc : TT} {tb : TS} {pos : Pos} (hp : PassesOwn (model X.prog X.w) X.A X.env X.xe) (hc : PT X c tc) (hb : PSs X body tb) : PS X (.While c body [] pos) (dWhile tc tb) := by
  refine ⟨fun pins s σ H D I h => ?_⟩
  obtain ⟨⟨W, ⟨m0, w0⟩, turn⟩⟩ := h
  refine wpAny_While (codeAny_whileLoop (fun n s' => ∃ σ' H', Inv X pins σ' H' s' ∧ W n σ' H') ?_ m0 ⟨σ, H, I, w0⟩)
  rintro n s1 ⟨σ1, H1, I1, w1⟩
  refine wpAny_passesOwn hp (thn (hc.run pins s1 σ1 H1 _ I1 (turn n σ1 H1 w1)) fun b s2 ⟨H2, I2, q2⟩ => ?_)
  cases b with
  | true =>
    rw [if_pos rfl]
    refine wpAny_passesOwn hp (thn (hb.run pins s2 σ1 H2 _ I2 q2) fun f s3 q3 => ?_)
    cases f with
    | next =>
      obtain ⟨σ3, H3, I3, m', hm, w3⟩ := q3
      exact ⟨m', hm, σ3, H3, I3, w3⟩
    | cont =>
      obtain ⟨σ3, H3, I3, m', hm, w3⟩ := q3
      exact ⟨m', hm, σ3, H3, I3, w3⟩
    | brk => exact q3
    | ret v => exact q3
  | false =>
    rw [if_neg Bool.false_ne_true]
    exact wpAny_execs_nil ⟨σ1, H2, I2, q2⟩
/-! ### calls of the module's defs, by positional promises -/
/-- f(e, ..): what is raised is wished for at the caller's slots -/
def dCall (sp : Sp) (E : L2.St → XK) (t : TA) : TE := fun σ H Q => t σ H fun vs H1 => sp vs H1 Q (E σ)
section
variable {X : Cx} {k : Nat} {g : Addr} {sp : Sp} {E : L2.St → XK} {x : Str} {p pos : Pos} {e : Expr} {es : List Expr} {t : TA}
theorem run_R {pins : List (Addr × Obj)} {σ : L2.St} {H : Hp} {s : Shared} {Q : VK} {us : List Value} {vs : List V} (F : FnR X.prog X.w X.K X.mg X.base (L2.CX X.prog X.w) k g sp) (hr : Room k X.A) (hx : PassesAt (L2.CX X.prog X.w) X σ (E σ))
    (I : Inv X pins σ H s) (r : Vals vs us) (h : sp vs H Q (E σ)) : wpAny (model X.prog X.w) X.A (call (.ref g) us) (EP X pins σ Q) X.xe s := by
  refine wpAny_call (codeAny_mono (F X.A X.stack s H us vs Q (E σ) hr I.env0 r h) fun r s' hq => ?_)
  cases r with
  | error e => exact hx pins H s e s' I hq
  | ok fl =>
    cases fl with
    | ret u => exact I.after hq
    | next => exact False.elim hq
    | brk => exact False.elim hq
    | cont => exact False.elim hq
theorem pe_call (F : FnR X.prog X.w X.K X.mg X.base (L2.CX X.prog X.w) k g sp) (hr : Room k X.A) (hm : X.mg x = some (.ref g)) (hk : PySem.W.keepIn X.K (.ref g) = true) (hx : ∀ σ, PassesAt (L2.CX X.prog X.w) X σ (E σ))
    (ha : PA X (e :: es) t) (hg : Gl X x := by rfl) (hdb : (x == ("__debug__" : Str)) = false := by decide) (he : starEach (e :: es) X.env = (false, eval e X.env) :: starEach es X.env := by rfl) (hpl : (backTo pos (starEach es X.env)).any (·.1) = false := by rfl) :
    PE X (.Call (.Name x p) (e :: es) [] pos) (dCall sp E t) := by
  refine ⟨fun pins s σ H Q I h => ?_⟩
  refine wpAny_Call_Name_kw (ld_glob I hg hm ?_ hdb)
  refine PySem.W.callWith_K (h₀ := X.base) I.ok.mod.kin hk (thn (ha.run pos pins s σ H _ I h) fun us s1 ⟨vs, H1, I1, r, q⟩ => ⟨I1.kIn, ?_⟩) he hpl
  exact run_R F hr (hx σ) I1 r q
end
/-- f(e, ..), f a built-in function | type -/
theorem pe_cb {X : Cx} {x : Str} {p pos : Pos} {e : Expr} {es : List Expr} {t : TA} {id : String} {r : List V → Hp → VK → Prop} (hc : CallR X (.builtin id) r) (hm : X.mg x = none) (hv : bootBuiltins x = some (.builtin id)) (ha : PA X (e :: es) t) (hg : Gl X x := by rfl) (hn : x ≠ "__name__" := by decide) (hdb : (x == ("__debug__" : Str)) = false := by decide)
    (he : starEach (e :: es) X.env = (false, eval e X.env) :: starEach es X.env := by rfl) (hpl : (backTo pos (starEach es X.env)).any (·.1) = false := by rfl) : PE X (.Call (.Name x p) (e :: es) [] pos) (tCB r t) := pe_callB hc hg hm hv ha hn hdb he hpl
theorem pe_ct {X : Cx} {x : Str} {p pos : Pos} {e : Expr} {es : List Expr} {t : TA} {T : String} {r : List V → Hp → VK → Prop} (hc : CallR X (.type T) r) (hm : X.mg x = none) (hv : bootBuiltins x = some (.type T)) (ha : PA X (e :: es) t) (hg : Gl X x := by rfl) (hn : x ≠ "__name__" := by decide) (hdb : (x == ("__debug__" : Str)) = false := by decide)
    (he : starEach (e :: es) X.env = (false, eval e X.env) :: starEach es X.env := by rfl) (hpl : (backTo pos (starEach es X.env)).any (·.1) = false := by rfl) : PE X (.Call (.Name x p) (e :: es) [] pos) (tCB r t) := pe_callTy hc hg hm hv ha hn hdb he hpl
/-- a built-in's name as a value -/
theorem pe_bt {X : Cx} {x : Str} {n : String} {pos : Pos} (hm : X.mg x = none) (hv : bootBuiltins x = some (.type n)) (hg : Gl X x := by rfl) (hn : x ≠ "__name__" := by decide) (hd : (x == ("__debug__" : Str)) = false := by decide) : PE X (.Name x pos) (tC (.ty n)) := pe_bltn hg hm hv rfl hn hd
/-! ### a def by its body -/
section
variable {P : Program} {w : World} {K : Frag} {mg : Str → Option Value} {base : Heap}
abbrev FR (P : Program) (w : World) (K : Frag) (mg : Str → Option Value) (base : Heap) (k : Nat) (f : Addr) (sp : Sp) : Prop := FnR P w K mg base (L2.CX P w) k f sp
/-- the context of a def's body -/
abbrev cxD (P : Program) (w : World) (K : Frag) (mg : Str → Option Value) (base : Heap) (N : List Str) (qual : Str) (scope : Scope) (f : Addr) (cd : Value) (A : Around) (outer : List Env) (s : Shared) (H : Hp) (E : XK) : Cx := cxOf (L2.CX P w) P w K mg base N qual scope f cd A outer s H E
theorem mk_fn {x qual : Str} {params : Arguments} {body : List Stmt} {scope : Scope} {f : Addr} {fd : FuncData} {N ps : List Str} {k : Nat} {sp : Sp} (F : FunD K x qual params body scope [] [] f fd) (S : FnScope N ps scope) (len : ∀ vs H Q E, sp vs H Q E → vs.length = ps.length)
    (hb : ∀ (kV doc pm : Value) (an : Option Addr) (cdv ct : Value) (us : List Value), us.length = ps.length → bindArgs (PySem.W.fnOf x qual params body scope .none kV doc pm an cdv ct) ⟨us, []⟩ = pure (ps.zip us)) {t : XK → TS}
    (hbody : ∀ (cdv : Value) (A : Around) (outer : List Env) (s : Shared) (H : Hp) (E : XK), Room k (A.deeper (envOfC qual scope s.heap.objs.size f cdv)) →
      PSs (cxD P w K mg base N qual scope f cdv A outer s H E) body (t E))
    (pure : ∀ vs H Q E, sp vs H Q E → t E { nx := fun _ H' => Q .non H', rt := Q } (start N vs) H) : FR P w K mg base (k + 1) f sp := by
  have z := (FunD.ok (P := P) (w := w) (mg := mg) (base := base) (CX := L2.CX P w) (sp := sp) F S len fun cdv A outer s H vs Q E hr h => ⟨t E, hbody cdv A outer s H E hr, pure vs H Q E h⟩).raw (F.bindsN hb) .nil
  intro A outer s H us vs Q E hr e0 r hs
  exact z A outer s H us vs Q E hr e0 r (by show sp (vs ++ []) H Q E; rw [List.append_nil]; exact hs)
end
/-- the wish of a def's body: what leaves it leaves the def -/
abbrev EW (E : XK) : L2.St → XK := fun _ => E
theorem passD {P : Program} {w : World} {K : Frag} {mg : Str → Option Value} {base : Heap} {N : List Str} {qual : Str} {scope : Scope} {f : Addr} {cd : Value} {A : Around} {outer : List Env} {s : Shared} {H : Hp} {E : XK} :
    ∀ σ, PassesAt (L2.CX P w) (cxD P w K mg base N qual scope f cd A outer s H E) σ (EW E σ) := fun σ => passAt (takes_of rfl rfl rfl rfl) σ
theorem ownD {P : Program} {w : World} {K : Frag} {mg : Str → Option Value} {base : Heap} {N : List Str} {qual : Str} {scope : Scope} {f : Addr} {cd : Value} {A : Around} {outer : List Env} {s : Shared} {H : Hp} {E : XK} :
    PassesOwn (model P w) (cxD P w K mg base N qual scope f cd A outer s H E).A (cxD P w K mg base N qual scope f cd A outer s H E).env (cxD P w K mg base N qual scope f cd A outer s H E).xe := passes_of rfl
/-! ### named rests: the walk stops there -/
structure Stop (t : TS) (D : Ends) (σ : L2.St) (H : Hp) : Prop where
  go : t D σ H
def stop (t : TS) : TS := fun D σ H => Stop t D σ H
theorem pss_stop {X : Cx} {st : List Stmt} {t : TS} (h : PSs X st t) : PSs X st (stop t) := ⟨fun pins s σ H D I q => h.run pins s σ H D I q.go⟩
/-! ### the law's own def: nothing leaves it -/
theorem passL0 {X : Cx} : ∀ σ, PassesAt (L2.CX X.prog X.w) X σ (EW E0 σ) := fun _ _ _ _ _ _ _ h => by
  obtain ⟨_, _, _, _, _, _, _, _, _, _, _, _, z⟩ := h
  exact z.elim
theorem mk_law {P : Program} {w : World} {K : Frag} {mg : Str → Option Value} {base : Heap} {x qual : Str} {params : Arguments} {body : List Stmt} {scope : Scope} {f : Addr} {fd : FuncData} {N ps : List Str} {k : Nat} {sp : Sp} (F : FunD K x qual params body scope [] [] f fd) (S : FnScope N ps scope) (len : ∀ vs H Q E, sp vs H Q E → vs.length = ps.length)
    {t : XK → TS} (hbody : ∀ (cdv : Value) (A : Around) (outer : List Env) (s : Shared) (H : Hp) (E : XK), Room k (A.deeper (envOfC qual scope s.heap.objs.size f cdv)) →
      PSs (cxOf CX0 P w K mg base N qual scope f cdv A outer s H E).nox body (t E0))
    (pure : ∀ vs H Q E, sp vs H Q E → t E0 { nx := fun _ H' => Q .non H', rt := Q } (start N vs) H) : FnOk P w K mg base CX0 (k + 1) f fd ps sp :=
  FunD.ok F S len fun cdv A outer s H vs Q E hr h => ⟨t E0, PSs.nox (hbody cdv A outer s H E hr), pure vs H Q E h⟩
/-! ### comprehensions with one for -/
structure Wr (R : It → Hp → Prop) (J : It) (H : Hp) : Prop where
  go : R J H
theorem pi_wr {X : Cx} {tg iter : Expr} {wi : TI} (h : PI X tg iter wi) : PI X tg iter (fun σ H R => wi σ H (Wr R)) := ⟨fun pins s σ H R I q =>
  thn (h.run pins s σ H (Wr R) I q) fun _ _ z => thn z fun _ _ ⟨it, fp, tn, J, H', e, I', T, t0, f, r⟩ => ⟨it, fp, tn, J, H', e, I', T, t0, f, r.go⟩⟩
def LcGo (g : TG) (tt : TT) (te : TE) (vs : List Nat) (σ : L2.St) (Q : VK) (J : It) (H1 : Hp) : Prop :=
  ∀ D, H1 D = none → ∃ W : Nat → Nat → Hp → Prop, (∃ m, W 0 m (upd H1 D (.lst []))) ∧ ∀ i m H, W i m H →
    (J.stop i H ∧ Q (.ref D) H) ∨ (J.go i H ∧ ∃ Nx : Hp → Prop, (∀ H', Nx H' → ∃ m', m' < m ∧ W (i + 1) m' H') ∧ ∀ x H', J.yld i H x H' → g x (wipe σ vs) H' fun σ2 H2 => wipe σ2 vs = wipe σ vs ∧ tt σ2 H2 fun b H3 =>
      if b = true then te σ2 H3 fun y H4 => ∃ acc, H4 D = some (.lst acc) ∧ acc.length < sizeLine ∧ Nx (upd H4 D (.lst (acc ++ [y]))) else Nx H3)
def dLc (wi : TI) (g : TG) (tt : TT) (te : TE) (vs : List Nat) : TE := fun σ H Q => wi σ H (Wr (LcGo g tt te vs σ Q))
theorem pe_lc {X : Cx} {elt tg iter : Expr} {ifs : List Expr} {scope : Scope} {own : List (Str × Nat)} {pos : Pos} {wi : TI} {g : TG} {tt : TT} {te : TE} (hc : X.calm = true) (hN : X.N.Nodup) (hi : PI X tg iter wi) (ok : BlkOk X.N X.env.scope scope own)
    (hg : ∀ (s : Shared) (H : Hp) (C : Addr) (cl : List (Str × Addr)) (fp : List Addr), PG (X.blk s H scope (compEnvC scope cl C X.env) fp) tg g) (ht : ∀ (s : Shared) (H : Hp) (C : Addr) (cl : List (Str × Addr)) (fp : List Addr), PTs (X.blk s H scope (compEnvC scope cl C X.env) fp) ifs tt)
    (he : ∀ (s : Shared) (H : Hp) (C : Addr) (cl : List (Str × Addr)) (fp : List Addr), PE (X.blk s H scope (compEnvC scope cl C X.env) fp) elt te) (hs : ∀ x, foldedSetIterable iter X.env x = pure x := by intro _; rfl) :
    PE X (.ListComp elt [⟨tg, iter, ifs, 0⟩] scope pos) (dLc wi g tt te (own.map (·.2))) := L2.pe_lc hc hN (pi_wr hi) ok hg ht he hs
theorem ps_setLc {X : Cx} {i : Nat} {y : Str} {py : Pos} {elt tg iter : Expr} {ifs : List Expr} {scope : Scope} {own : List (Str × Nat)} {pos spos : Pos} {wi : TI} {g : TG} {tt : TT} {te : TE} (hc : X.calm = true) (hN : X.N.Nodup) (hy : X.N[i]? = some y) (hyl : X.env.scope.names.lookup y = some .local)
    (hsw : swapsWith (.ListComp elt [⟨tg, iter, ifs, 0⟩] scope pos) (some (.Name y py)) spos.line X.env = pure true) (hi : PI X tg iter wi) (ok : BlkOk X.N X.env.scope scope own)
    (hg : ∀ (s : Shared) (H : Hp) (C : Addr) (cl : List (Str × Addr)) (fp : List Addr), PG (X.blk s H scope (compEnvC scope cl C X.env) fp) tg g) (ht : ∀ (s : Shared) (H : Hp) (C : Addr) (cl : List (Str × Addr)) (fp : List Addr), PTs (X.blk s H scope (compEnvC scope cl C X.env) fp) ifs tt)
    (he : ∀ (s : Shared) (H : Hp) (C : Addr) (cl : List (Str × Addr)) (fp : List Addr), PE (X.blk s H scope (compEnvC scope cl C X.env) fp) elt te) (hs : ∀ x, foldedSetIterable iter X.env x = pure x := by intro _; rfl) :
    PS X (.Assign [.Name y py] (.ListComp elt [⟨tg, iter, ifs, 0⟩] scope pos) spos) (tAsg (dLc wi g tt te (own.map (·.2))) (gName i)) := L2.ps_setLc hc hN hy hyl hsw (pi_wr hi) ok hg ht he hs
theorem ifc {c : Prop} [Decidable c] {A B : Prop} (h1 : c → A) (h2 : ¬ c → B) : if decide c = true then A else B := by
  by_cases h : c
  · rw [decide_eq_true h]; exact iteT (h1 h)
  · rw [decide_eq_false h]; exact iteF (h2 h)
/-- over a list or a tuple, by a word over (turn, heap): the new list stands at D -/
theorem lc_seq {K : Frag} {p : Addr} {xs : List V} {g : TG} {tt : TT} {te : TE} {vs : List Nat} {σ : L2.St} {H1 : Hp} {Q : VK} (hx : SqA K H1 p xs)
    (h : ∀ D, H1 D = none → ∃ Pv : Nat → Hp → Prop, Pv 0 (upd H1 D (.lst [])) ∧ (∀ i H, i ≤ xs.length → Pv i H → ∀ ys, (SqL K H1 p ys → SqL K H p ys) ∧ (SqT K H1 p ys → SqT K H p ys)) ∧
      (∀ i x H, xs[i]? = some x → Pv i H → g x (wipe σ vs) H fun σ2 H2 => wipe σ2 vs = wipe σ vs ∧ tt σ2 H2 fun b H3 =>
        if b = true then te σ2 H3 fun y H4 => ∃ acc, H4 D = some (.lst acc) ∧ acc.length < sizeLine ∧ Pv (i + 1) (upd H4 D (.lst (acc ++ [y]))) else Pv (i + 1) H3) ∧ (∀ H, Pv xs.length H → Q (.ref D) H)) :
    Walk K H1 p (Wr (LcGo g tt te vs σ Q)) := by
  rcases hx with hx | hx
  · refine ⟨.inl ⟨⟨xs, hx⟩, ⟨fun D hD => ?_⟩⟩⟩
    obtain ⟨Pv, h0, hl, hs, hd⟩ := h D hD
    exact lc_list (Qd := fun H => Q (.ref D) H) Pv h0 (fun i H hi q => (hl i H hi q xs).1 hx) hs hd
  · refine ⟨.inr ⟨⟨xs, hx⟩, ⟨fun D hD => ?_⟩⟩⟩
    obtain ⟨Pv, h0, hl, hs, hd⟩ := h D hD
    exact lc_tup (Qd := fun H => Q (.ref D) H) Pv h0 (fun i H hi q => (hl i H hi q xs).2 hx) hs hd
/-- all but lists stays (dicts too) -/
def SameI (H H' : Hp) : Prop := ∀ b o, H b = some o → (∀ l, o ≠ .lst l) → H' b = some o
theorem Same.i {H H' : Hp} (e : Same H H') : SameI H H' := fun b o h _ => e b o h
theorem SameI.trans {H H1 H2 : Hp} (a : SameI H H1) (b : SameI H1 H2) : SameI H H2 := fun c o h n => b c o (a c o h n) n
theorem SameI.lst {H : Hp} {p : Addr} {xs ys : List V} (h : H p = some (.lst xs)) : SameI H (L2.upd H p (.lst ys)) := fun b o hb n => by
  by_cases e : b = p
  · subst e; rw [h] at hb; exact absurd (Option.some.inj hb).symm (n xs)
  · rw [upd_ne e]; exact hb
theorem SameX.i {st : Addr} {H H' : Hp} {xs : List V} (e : SameX st H H') (h : H st = some (.lst xs)) : SameI H H' := fun b o hb n => e b o hb fun z => by
  subst z; rw [h] at hb; exact n xs (Option.some.inj hb).symm
theorem SameI.tup {K : Frag} {H H' : Hp} {a : Addr} {xs : List V} (e : SameI H H') (h : SqT K H a xs) : SqT K H' a xs := by
  rcases h with (h | ⟨o, h⟩) | h
  · exact .inl (.inl (e _ _ h fun _ z => by cases z))
  · exact .inl (.inr ⟨o, e _ _ h fun _ z => by cases z⟩)
  · exact .inr h
theorem take_filter {xs : List V} {pr : V → Bool} {i : Nat} {x : V} (h : xs[i]? = some x) : (xs.take (i + 1)).filter pr = (xs.take i).filter pr ++ (if pr x = true then [x] else []) := by
  rw [List.take_succ, h, List.filter_append]
  congr 1
  show [x].filter pr = _
  by_cases e : pr x = true <;> simp [e]
/-- .. whose test is told by a function of the item, its elements by a relation -/
theorem lc_rel {K : Frag} {p : Addr} {xs : List V} {g : TG} {tt : TT} {te : TE} {vs : List Nat} {σ : L2.St} {H1 : Hp} {Q : VK} (R : V → V → Hp → Prop) (pr : V → Bool) (hx : SqA K H1 p xs) (hz : xs.length < sizeLine) (mono : ∀ x y H H', R x y H → SameI H H' → R x y H')
    (hs : ∀ x H (A : V → Hp → Prop) (B : Hp → Prop), x ∈ xs → Same H1 H → (∀ y H', Same H H' → R x y H' → pr x = true → A y H') → (∀ H', Same H H' → pr x = false → B H') →
      g x (wipe σ vs) H fun σ2 H2 => wipe σ2 vs = wipe σ vs ∧ tt σ2 H2 fun b H3 => if b = true then te σ2 H3 A else B H3)
    (hd : ∀ D ys H', H1 D = none → H' D = some (.lst ys) → Paired (fun x y => R x y H') (xs.filter pr) ys → Same H1 H' → Q (.ref D) H') :
    Walk K H1 p (Wr (LcGo g tt te vs σ Q)) := by
  refine lc_seq hx fun D hD => ⟨fun i H => ∃ ys, H D = some (.lst ys) ∧ Paired (fun x y => R x y H) ((xs.take i).filter pr) ys ∧ Same H1 H, ⟨[], upd_same, .nil, same_new hD⟩, fun i H _ ⟨_, _, _, e⟩ ys => ⟨e.seq, Same.tup e⟩, ?_, fun H ⟨ys, h1, h2, e⟩ => hd D ys H hD h1 (by rw [List.take_length] at h2; exact h2) e⟩
  rintro i x H hi ⟨ys, h1, h2, e⟩
  have hlen : ys.length ≤ i := by
    rw [← h2.length]
    exact Nat.le_trans (List.length_filter_le _ _) (by rw [List.length_take]; exact Nat.min_le_left _ _)
  have hil : i < xs.length := (List.getElem?_eq_some_iff.mp hi).1
  refine hs x H _ _ (List.mem_of_getElem? hi) e (fun y H' e2 r hp => ⟨ys, e2 _ _ h1, by omega, ys ++ [y], upd_same, ?_, ?_⟩) fun H' e2 hp => ⟨ys, e2 _ _ h1, ?_, e.trans e2⟩
  · have si : SameI H' (upd H' D (.lst (ys ++ [y]))) := SameI.lst (e2 _ _ h1)
    rw [take_filter hi, if_pos hp]
    exact Paired.snoc (Paired.mapP h2 fun a b r => mono _ _ _ _ r (SameI.trans (Same.i e2) si)) (mono _ _ _ _ r si)
  · intro b o hb
    rw [upd_ne (ne_of_none hb hD)]
    exact e2 _ _ (e _ _ hb)
  · rw [take_filter hi, if_neg (by rw [hp]; exact Bool.false_ne_true), List.append_nil]
    exact Paired.mapP h2 fun a b r => mono _ _ _ _ r (Same.i e2)
/-- .. whose test and elements are told by functions of the item -/
theorem lc_map {K : Frag} {p : Addr} {xs : List V} {g : TG} {tt : TT} {te : TE} {vs : List Nat} {σ : L2.St} {H1 : Hp} {Q : VK} (f : V → V) (pr : V → Bool) (hx : SqA K H1 p xs) (hz : xs.length < sizeLine)
    (hs : ∀ x H (A : V → Hp → Prop) (B : Hp → Prop), x ∈ xs → Same H1 H → (∀ H', Same H H' → pr x = true → A (f x) H') → (∀ H', Same H H' → pr x = false → B H') →
      g x (wipe σ vs) H fun σ2 H2 => wipe σ2 vs = wipe σ vs ∧ tt σ2 H2 fun b H3 => if b = true then te σ2 H3 A else B H3)
    (hd : ∀ D H', H1 D = none → H' D = some (.lst ((xs.filter pr).map f)) → Same H1 H' → Q (.ref D) H') :
    Walk K H1 p (Wr (LcGo g tt te vs σ Q)) := by
  refine lc_rel (fun x y _ => y = f x) pr hx hz (fun _ _ _ _ r _ => r) (fun x H A B hm e hA hB => hs x H A B hm e (fun H' e2 hp => hA _ _ e2 rfl hp) hB) fun D ys H' hn hD hp e => hd D H' hn ?_ e
  have key : ∀ {as bs : List V}, Paired (fun x y => y = f x) as bs → bs = as.map f := by
    intro as bs h
    induction h with
    | nil => rfl
    | cons r _ ih => rw [r, ih]; rfl
  rw [← key hp]; exact hD
end S
namespace S
open PySem PySem.Spec PyProof.Rows L2
/-! ### classes by their names -/
/-- the class x: below the classes ups of the text and the built-in ones tys -/
structure MF (K : Frag) (x : Str) (ups : List Str) (tys : List String) : Prop where
  cd : ∃ cd, PySem.W.clsIn K (He.ga K x) = some cd ∧ cd.name = x ∧ cd.mro = (x :: ups).map (fun y => Value.ref (He.ga K y)) ++ tys.map Value.type
  up : ∀ y ∈ ups, ∃ cd, PySem.W.clsIn K (He.ga K y) = some cd ∧ cd.name = y
  ty : PySem.W.typeIn K (.ref (He.ga K x)) = some (.type "type")
theorem nmB_ok {K : Frag} {y : Str} (h : nmB K y = true) : ∃ cd, PySem.W.clsIn K (He.ga K y) = some cd ∧ cd.name = y := by
  unfold nmB at h
  split at h
  · rename_i cd e
    exact ⟨cd, e, of_decide_eq_true h⟩
  · cases h
theorem mfB_ok {K : Frag} {x : Str} {ups : List Str} {tys : List String} (h : mfB K x ups tys = true) : MF K x ups tys := by
  unfold mfB at h
  obtain ⟨h1, h2⟩ := He.ba h
  obtain ⟨h3, h4⟩ := He.ba h2
  refine ⟨?_, fun y hy => nmB_ok (List.all_eq_true.mp h3 y hy), of_decide_eq_true h4⟩
  split at h1
  · rename_i cd e
    obtain ⟨h5, h6⟩ := He.ba h1
    exact ⟨cd, e, of_decide_eq_true h5, of_decide_eq_true h6⟩
  · cases h1
theorem nm_inj {K : Frag} {x y : Str} (h1 : ∃ cd, PySem.W.clsIn K (He.ga K x) = some cd ∧ cd.name = x) (h2 : ∃ cd, PySem.W.clsIn K (He.ga K y) = some cd ∧ cd.name = y) (e : He.ga K x = He.ga K y) : x = y := by
  obtain ⟨c1, e1, n1⟩ := h1
  obtain ⟨c2, e2, n2⟩ := h2
  rw [e, e2] at e1
  cases e1
  exact n1.symm.trans n2
theorem MF.nm {K : Frag} {x : Str} {ups : List Str} {tys : List String} (m : MF K x ups tys) : ∃ cd, PySem.W.clsIn K (He.ga K x) = some cd ∧ cd.name = x := let ⟨cd, a, b, _⟩ := m.cd; ⟨cd, a, b⟩
theorem MF.all {K : Frag} {x : Str} {ups : List Str} {tys : List String} (m : MF K x ups tys) : ∀ y ∈ x :: ups, ∃ cd, PySem.W.clsIn K (He.ga K y) = some cd ∧ cd.name = y := fun y hy => by
  rcases List.mem_cons.mp hy with e | e
  · subst e; exact m.nm
  · exact m.up y e
section
variable {K : Frag} {x y : Str} {ups ups' : List Str} {tys tys' : List String}
theorem mf_sub (m : MF K x ups tys) (b : Value) : PySem.W.subIn K (.ref (He.ga K x)) b = some (decide (b ∈ (x :: ups).map (fun y => Value.ref (He.ga K y)) ++ tys.map Value.type)) := by
  obtain ⟨cd, e, _, hm⟩ := m.cd
  show PySem.W.mroIn K (He.ga K x) b = _
  unfold PySem.W.mroIn
  rw [e, Option.bind_some, hm, if_neg (by simp)]
  congr 1
  rw [Bool.eq_iff_iff]
  simp
theorem mf_cls (m : MF K x ups tys) (n : MF K y ups' tys') : PySem.W.kitCls K (.ref (He.ga K x)) (.ref (He.ga K y)) = some (decide (y ∈ x :: ups)) := by
  obtain ⟨cd, e, _⟩ := n.cd
  show (if ((PySem.W.clsIn K (He.ga K y)).isSome && PySem.W.typeIn K (.ref (He.ga K y)) == some (.type "type")) = true then PySem.W.subIn K (.ref (He.ga K x)) (.ref (He.ga K y)) else none) = _
  rw [if_pos (by rw [e, n.ty]; simp), mf_sub m]
  congr 1
  rw [decide_eq_decide]
  simp only [List.mem_append, List.mem_map]
  constructor
  · rintro (⟨z, hz, e⟩ | ⟨z, _, e⟩)
    · rw [← nm_inj (m.all z hz) n.nm (Value.ref.inj e)]
      exact hz
    · cases e
  · intro h
    exact .inl ⟨y, h, rfl⟩
theorem mf_kit (m : MF K x ups tys) (n : MF K y ups' tys') : PySem.W.kitOne K (.ref (He.ga K x)) (.ref (He.ga K y)) = some (decide (y ∈ x :: ups)) := by
  unfold PySem.W.kitOne
  split
  · rename_i h
    have e := nm_inj m.nm n.nm (Value.ref.inj (beq_iff_eq.mp h))
    subst e
    rw [decide_eq_true (List.mem_cons_self)]
  · exact mf_cls m n
end
/-! ### classes with slots -/
structure CF (K : Frag) (x : Str) (fs : List Str) : Prop where
  mf : MF K x [] ["object"]
  sc : SlX.SCls K (He.ga K x)
  si : SlX.SIsi K (He.ga K x)
  sl : ∀ i f, fs[i]? = some f → SlX.Slot1 K (He.ga K x) f (He.ma K (He.ga K x) f) i
theorem sclsB_ok {K : Frag} {C : Addr} (h : sclsB K C = true) : SlX.SCls K C := by
  obtain ⟨h1, h⟩ := He.ba h
  obtain ⟨h2, h⟩ := He.ba h
  obtain ⟨h3, h4⟩ := He.ba h
  exact ⟨h1, h2, h3, He.eqO_ok h4⟩
theorem sisiB_ok {K : Frag} {C : Addr} (h : sisiB K C = true) : SlX.SIsi K C := by
  obtain ⟨h1, h⟩ := He.ba h
  obtain ⟨h2, h⟩ := He.ba h
  obtain ⟨h3, h4⟩ := He.ba h
  exact ⟨He.eqO_ok h1, He.eqO_ok h2, of_decide_eq_true h3, of_decide_eq_true h4⟩
theorem slotB_ok {K : Frag} {C : Addr} {f : Str} {p : Addr} {i : Nat} (h : slotB K C f p i = true) : SlX.Slot1 K C f p i := by
  obtain ⟨h1, h⟩ := He.ba h
  obtain ⟨h2, h⟩ := He.ba h
  obtain ⟨h3, h⟩ := He.ba h
  obtain ⟨h4, h⟩ := He.ba h
  obtain ⟨h5, h6⟩ := He.ba h
  exact ⟨He.eqO_ok h1, He.eqO_ok h2, of_decide_eq_true h3, of_decide_eq_true h4, of_decide_eq_true h5, of_decide_eq_true h6⟩
theorem slotsB_ok {K : Frag} {C : Addr} : ∀ {fs : List Str} {n : Nat}, slotsB K C fs n = true → ∀ i f, fs[i]? = some f → SlX.Slot1 K C f (He.ma K C f) (n + i)
  | [], _, _, i, f, e => by simp at e
  | g :: r, n, h, i, f, e => by
    obtain ⟨h1, h2⟩ := He.ba (show (slotB K C g (He.ma K C g) n && slotsB K C r (n + 1)) = true from h)
    cases i with
    | zero =>
      have e' : g = f := by simpa using e
      subst e'
      exact slotB_ok h1
    | succ i =>
      have z := slotsB_ok h2 i f (by simpa using e)
      rw [show n + 1 + i = n + (i + 1) by omega] at z
      exact z
theorem cfB_ok {K : Frag} {x : Str} {fs : List Str} (h : cfB x fs K = true) : CF K x fs := by
  obtain ⟨h1, h⟩ := He.ba h
  obtain ⟨h2, h⟩ := He.ba h
  obtain ⟨h3, h4⟩ := He.ba h
  exact ⟨mfB_ok h1, sclsB_ok h2, sisiB_ok h3, fun i f e => by have z := slotsB_ok h4 i f e; rw [Nat.zero_add] at z; exact z⟩
/-! ### the exceptions -/
structure ExF (K : Frag) (x : Str) (ups : List Str) : Prop where
  mf : MF K x ups veTys
  ec : L2.ExcC K (He.ga K x)
theorem excB_ok {K : Frag} {D : Addr} (h : excB K D = true) : L2.ExcC K D := by
  obtain ⟨h1, h⟩ := He.ba h
  obtain ⟨h2, h⟩ := He.ba h
  obtain ⟨h3, h⟩ := He.ba h
  obtain ⟨h4, h⟩ := He.ba h
  obtain ⟨h5, h⟩ := He.ba h
  obtain ⟨h6, h⟩ := He.ba h
  obtain ⟨h7, h8⟩ := He.ba h
  exact ⟨He.eqO_ok h1, He.eqO_ok h2, of_decide_eq_true h3, h4, He.eqO_ok h5, He.eqO_ok h6, of_decide_eq_true h7, of_decide_eq_true h8⟩
theorem exfB_ok {K : Frag} {x : Str} {ups : List Str} (h : exfB x ups K = true) : ExF K x ups := by
  obtain ⟨h1, h2⟩ := He.ba h
  exact ⟨mfB_ok h1, excB_ok h2⟩
/-- what raising needs of a class without own __init__ -/
structure RsF (K : Frag) (x : Str) : Prop where
  q : PySem.W.excIn K (He.ga K x) He.veBase "ValueError.__new__" = true
  kp : PySem.W.keepIn K (.ref (He.ga K x)) = true
  sub : PySem.W.subIn K (.ref (He.ga K x)) (.type "BaseException") = some true
  ty : PySem.W.typeIn K (.ref (He.ga K x)) = some (.type "type")
theorem rsB_ok {K : Frag} {x : Str} (h : rsB x K = true) : RsF K x := let ⟨a, b, c, d⟩ := He.exc_ok h; ⟨a, b, c, d⟩
/-! ### given facts -/
def dGiv (P : Prop) (t : TE) : TE := fun σ H Q => P → t σ H Q
theorem pe_giv {X : Cx} {e : Expr} {P : Prop} {t : TE} (p : P) (h : PE X e t) : PE X e (dGiv P t) := ⟨fun pins s σ H Q I q => h.run pins s σ H Q I (q p)⟩
def dGivS (P : Prop) (t : TS) : TS := fun D σ H => P → t D σ H
theorem ps_giv {X : Cx} {e : Stmt} {P : Prop} {t : TS} (p : P) (h : PS X e t) : PS X e (dGivS P t) := ⟨fun pins s σ H Q I q => h.run pins s σ H Q I (q p)⟩
/-! ### attributes -/
structure Atr (K : Frag) (H : Hp) (a : Addr) (f : Str) (k : V → Prop) : Prop where
  ex : (∃ C dx p vs i v, SlX.Slt H a C dx vs ∧ SlX.SCls K C ∧ SlX.Slot1 K C f p i ∧ vs[i]? = some (some v) ∧ k v) ∨ (∃ C dx fs v, H a = some (.ins C dx fs) ∧ Cls K C ∧ NoAttr K C f ∧ fs.lookup f = some v ∧ k v)
theorem Atr.sl {K : Frag} {H : Hp} {a dx : Addr} {f x : Str} {k : V → Prop} {fs : List Str} {vs : List (Option V)} {i : Nat} {v : V} (c : CF K x fs) (h : SlX.Slt H a (He.ga K x) dx vs) (e : fs[i]? = some f) (l : vs[i]? = some (some v)) (q : k v) : Atr K H a f k := ⟨.inl ⟨_, dx, _, vs, i, v, h, c.sc, c.sl i f e, l, q⟩⟩
def dAt (K : Frag) (f : Str) (ta : TE) : TE := fun σ H Q => ta σ H fun x H1 => match x with
  | .ref a => Atr K H1 a f fun v => Q v H1
  | _ => False
theorem pe_at {X : Cx} {e : Expr} {f : Str} {pos : Pos} {ta : TE} (he : PE X e ta) (hb : attributeBase e f X.env (eval e X.env) = eval e X.env := by rfl) : PE X (.Attribute e f pos) (dAt X.K f ta) := by
  refine ⟨fun pins s σ H Q I h => ?_⟩
  refine attr_of hb (thn (he.run pins s σ H _ I h) fun u s1 ⟨x, H1, I1, rx, q⟩ => ?_)
  cases x <;> try exact q.elim
  cases rx
  rcases q.ex with ⟨C, dx, p, vs, i, v, hs, c, t, l, q⟩ | ⟨C, dx, fs, v, ea, c, n, l, q⟩
  · exact SlX.getslot_ok I1 hs c t l fun u' s2 I2 ru => ⟨v, H1, I2, ru, q⟩
  · exact getattr_ok I1 ea c n l fun u' s2 I2 ru => ⟨v, H1, I2, ru, q⟩
structure Sto (K : Frag) (H : Hp) (a : Addr) (f : Str) (y : V) (k : Hp → Prop) : Prop where
  ex : (∃ C dx p vs i, SlX.Slt H a C dx vs ∧ SlX.SCls K C ∧ SlX.Slot1 K C f p i ∧ k (SlX.slH H a C dx (SlX.putS i y vs))) ∨ (∃ C dx fs, H a = some (.ins C dx fs) ∧ Cls K C ∧ NoAttr K C f ∧ fs.length < 1000 ∧ k (upd H a (.ins C dx (putF f y fs))))
theorem Sto.sl {K : Frag} {H : Hp} {a dx : Addr} {f x : Str} {k : Hp → Prop} {fs : List Str} {vs : List (Option V)} {i : Nat} {y : V} (c : CF K x fs) (h : SlX.Slt H a (He.ga K x) dx vs) (e : fs[i]? = some f) (q : k (SlX.slH H a (He.ga K x) dx (SlX.putS i y vs))) : Sto K H a f y k := ⟨.inl ⟨_, dx, _, vs, i, h, c.sc, c.sl i f e, q⟩⟩
def dSto (K : Frag) (f : Str) (tv ta : TE) : TS := fun D σ H => tv σ H fun y H1 => ta σ H1 fun x H2 => match x with
  | .ref a => Sto K H2 a f y fun H3 => D.nx σ H3
  | _ => False
theorem ps_sto {X : Cx} {o value : Expr} {f : Str} {pos pos' : Pos} {ta tv : TE} (hv : PE X value tv) (ha : PE X o ta) (hs : swapsWith value (some (.Attribute o f pos')) pos.line X.env = pure false := by rfl) : PS X (.Assign [.Attribute o f pos'] value pos) (dSto X.K f tv ta) := by
  refine ⟨fun pins s σ H D I h => ?_⟩
  refine plainObj_wpAny_Assign_Attribute (thn (hv.run pins s σ H _ I h) fun u s1 ⟨y, H1, I1, ry, q⟩ => thn (ha.run pins s1 σ H1 _ I1 q) fun ov s2 ⟨x, H2, I2, rx, q2⟩ => ?_) hs
  cases x <;> try exact q2.elim
  cases rx
  rcases q2.ex with ⟨C, dx, p, vs, i, hsl, c, t, q2⟩ | ⟨C, dx, fs, ea, c, n, l, q2⟩
  · exact SlX.setslot_ok I2 hsl c t ry fun s3 I3 => ⟨σ, _, I3, q2⟩
  · exact setattr_ok I2 ea c n l ry fun s3 I3 => ⟨σ, _, I3, q2⟩
/-! ### new instances -/
structure NewI (K : Frag) (H : Hp) (c : Str) (k : Addr → Hp → Prop) : Prop where
  go : ∀ x dx, H x = none → H dx = none → dx ≠ x → k x (upd (upd H dx (.own x)) x (.ins (He.ga K c) dx []))
def dMake (K : Frag) (c : Str) (sp : Sp) (E : L2.St → XK) (t : TA) : TE := fun σ H Q => t σ H fun vs H1 => NewI K H1 c fun x H2 => sp (.ref x :: vs) H2 (fun v H3 => v = .non ∧ Q (.ref x) H3) (E σ)
section
variable {X : Cx} {k : Nat} {g : Addr} {sp : Sp} {E : L2.St → XK} {x c m : Str} {p pos apos : Pos} {e o : Expr} {es : List Expr} {t : TA} {ta : TE}
theorem run_mk {pins : List (Addr × Obj)} {σ : L2.St} {H : Hp} {s : Shared} {Q : VK} {us : List Value} {vs : List V} (M : Mk X.K (He.ga X.K c) g) (F : FnR X.prog X.w X.K X.mg X.base (L2.CX X.prog X.w) k g sp) (hr : Room (k + 1) X.A) (hx : PassesAt (L2.CX X.prog X.w) X σ (E σ))
    (I : Inv X pins σ H s) (r : Vals vs us) (h : NewI X.K H c fun x H2 => sp (.ref x :: vs) H2 (fun v H3 => v = .non ∧ Q (.ref x) H3) (E σ)) : wpAny (model X.prog X.w) X.A (call (.ref (He.ga X.K c)) us) (EP X pins σ Q) X.xe s := by
  have hq := h.go (s.heap.objs.size + 1) s.heap.objs.size (I.hok.fresh (Nat.le_succ _)) (I.hok.fresh (Nat.le_refl _)) (Nat.ne_of_lt (Nat.lt_succ_self _))
  have I2 := Inv.made (C := He.ga X.K c) I
  have r2 : Vals (V.ref (s.heap.objs.size + 1) :: vs) (Value.ref (s.heap.objs.size + 1) :: us) := .cons rfl r
  refine wpAny_call (make_map (f := g) I.kIn M.makes M.init (beq_iff_eq.mp M.fn) (codeAny_mono (F _ X.stack _ _ (Value.ref (s.heap.objs.size + 1) :: us) _ _ (E σ) (hr.make (He.ga X.K c) us []) (I2.env0.make (He.ga X.K c) us []) r2 hq) fun r s' hq' => ?_))
  cases r with
  | error e => exact hx pins _ _ e s' I2 hq'
  | ok fl =>
    cases fl with
    | ret u =>
      obtain ⟨v, H', I3, rv, ev, q3⟩ := I2.after hq'
      subst ev
      exact ⟨rv, ⟨V.ref (s.heap.objs.size + 1), H', I3, rfl, q3⟩⟩
    | next => exact False.elim hq'
    | brk => exact False.elim hq'
    | cont => exact False.elim hq'
theorem pe_mk (M : Mk X.K (He.ga X.K c) g) (F : FnR X.prog X.w X.K X.mg X.base (L2.CX X.prog X.w) k g sp) (hr : Room (k + 1) X.A) (hm : X.mg c = some (.ref (He.ga X.K c))) (hx : ∀ σ, PassesAt (L2.CX X.prog X.w) X σ (E σ))
    (ha : PA X (e :: es) t) (hg : Gl X c := by rfl) (hdb : (c == ("__debug__" : Str)) = false := by decide) (he : starEach (e :: es) X.env = (false, eval e X.env) :: starEach es X.env := by rfl) (hpl : (backTo pos (starEach es X.env)).any (·.1) = false := by rfl) :
    PE X (.Call (.Name c p) (e :: es) [] pos) (dMake X.K c sp E t) := by
  refine ⟨fun pins s σ H Q I h => ?_⟩
  refine wpAny_Call_Name_kw (ld_glob I hg hm ?_ hdb)
  refine PySem.W.callWith_K (h₀ := X.base) I.ok.mod.kin M.kp (thn (ha.run pos pins s σ H _ I h) fun us s1 ⟨vs, H1, I1, r, q⟩ => ⟨I1.kIn, ?_⟩) he hpl
  exact run_mk M F hr (hx σ) I1 r q
/-! ### methods of instances with slots -/
structure IsO (K : Frag) (H : Hp) (c : Str) (a : Addr) (q : Prop) : Prop where
  ex : ∃ dx vs, SlX.Slt H a (He.ga K c) dx vs
  q : q
theorem IsO.of {K : Frag} {H : Hp} {c : Str} {a dx : Addr} {q : Prop} {vs : List (Option V)} (h : SlX.Slt H a (He.ga K c) dx vs) (h2 : q) : IsO K H c a q := ⟨⟨dx, vs, h⟩, h2⟩
def dMeth (K : Frag) (c : Str) (sp : Sp) (E : L2.St → XK) (ta : TE) (t : TA) : TE := fun σ H Q => ta σ H fun x H1 => match x with
  | .ref a => IsO K H1 c a (t σ H1 fun ws H2 => sp (.ref a :: ws) H2 Q (E σ))
  | _ => False
theorem pe_meth {pl : Sem Bool} (hc : SlX.SCls X.K (He.ga X.K c)) (hm : Meth X.K (He.ga X.K c) m g) (F : FnR X.prog X.w X.K X.mg X.base (L2.CX X.prog X.w) k g sp) (hr : Room k X.A) (hx : ∀ σ, PassesAt (L2.CX X.prog X.w) X σ (E σ)) (he : PE X o ta) (ha : PA X (e :: es) t)
    (hst : starEach (e :: es) X.env = (false, eval e X.env) :: starEach es X.env := by rfl) (hpl : (backTo pos (starEach es X.env)).any (·.1) = false := by rfl)
    (ht : eval (.Call (.Attribute o m apos) (e :: es) [] pos) X.env = (do
      let ov ← eval o X.env
      standAt apos.atName
      let (f, first) ← holding [ov] (getMethod ov m pl)
      callWith pos f first (backTo pos (starEach (e :: es) X.env)) (backToKw pos (keywordEach [] X.env))) := by rfl) :
    PE X (.Call (.Attribute o m apos) (e :: es) [] pos) (dMeth X.K c sp E ta t) := by
  refine ⟨fun pins s σ H Q I h => ?_⟩
  refine PySem.W.methodCall_KW (pl := pl) (thn (he.run pins s σ H _ I h) fun u s1 ⟨x, H1, I1, rx, q⟩ => ?_) ht
  cases x <;> try exact q.elim
  cases rx
  obtain ⟨⟨dx, vs, hsl⟩, q⟩ := q
  refine SlX.getmethsl_ok I1 hsl hc hm ?_
  refine PySem.W.callWith_K (first := [.ref _]) (h₀ := X.base) I.ok.mod.kin hm.kp (thn (ha.run pos pins s1 σ H1 _ I1 q) fun us s2 ⟨ws, H2, I2, r, q2⟩ => ⟨I2.kIn, ?_⟩) hst hpl
  exact run_R (us := .ref _ :: us) (vs := .ref _ :: ws) F hr (hx σ) I2 (.cons rfl r) q2
/-- x in o, o an instance whose class has its own __contains__ -/
def oInO (K : Frag) (c : Str) (sp : Sp) (E : XK) : R2 := fun x y H Q => match y with
  | .ref a => IsO K H c a (sp [.ref a, x] H (isB fun b H' => Q (.bl b) H') E)
  | _ => False
theorem op_inO {E : XK} (hm : Meth X.K (He.ga X.K c) "__contains__" g) (F : FnR X.prog X.w X.K X.mg X.base (L2.CX X.prog X.w) k g sp) (hr : Room k X.A) (hx : ∀ σ, PassesAt (L2.CX X.prog X.w) X σ E) : OpR X (compareOp .In) (oInO X.K c sp E) := by
  intro pins s σ H x y v u Q I rx ry q
  cases y <;> try exact q.elim
  cases ry
  obtain ⟨⟨dx, vs, hsl⟩, q⟩ := q
  obtain ⟨sl, od, _, J, _⟩ := SlX.slt_inst I hsl
  obtain ⟨m, hF⟩ := I.fr
  refine PySem.W.in_K hF I.ok.mod.kin J hm.at_ hm.fn ?_
  refine wpAny_mono (run_R (us := [.ref _, v]) (vs := [.ref _, x]) (E := fun _ => E) F hr (hx σ) I (.cons rfl (.cons rx .nil)) q) (fun w s' z => ?_) fun _ _ x => x
  obtain ⟨z', H', I', rz, qz⟩ := z
  obtain ⟨b, e, qz⟩ := isB_ex qz
  subst e
  cases rz
  exact wpAny_truthy_bool ⟨.bl b, H', I', rfl, qz⟩
/-- o.f, a property -/
structure PropF (K : Frag) (c f : Str) (g : Addr) : Prop where
  at_ : PySem.W.findIn K (.ref (He.ga K c)) f = some (some (.ref (He.ma K (He.ga K c) f)))
  get : PySem.W.specialIn K (.ref (He.ma K (He.ga K c) f)) "__get__" = some (some (.builtin "property.__get__"))
  tk : PySem.W.takesIn K (.ref (He.ma K (He.ga K c) f)) = some true
  rc : ∃ rest, PySem.W.recIn K (He.ma K (He.ga K c) f) "property" = some (.ref g :: rest)
def dProp (K : Frag) (c : Str) (sp : Sp) (ta : TE) : TE := fun σ H Q => ta σ H fun x H1 => match x with
  | .ref a => IsO K H1 c a (sp [.ref a] H1 Q E0)
  | _ => False
theorem pe_prop {f : Str} {n : Nat} (hc : SlX.SCls X.K (He.ga X.K c)) (pf : PropF X.K c f g) (F : FnR X.prog X.w X.K X.mg X.base (L2.CX X.prog X.w) n g sp) (hr : Room (n + 1) X.A) (he : PE X e ta)
    (hb : attributeBase e f X.env (eval e X.env) = eval e X.env := by rfl) : PE X (.Attribute e f pos) (dProp X.K c sp ta) := by
  refine ⟨fun pins s σ H Q I h => ?_⟩
  refine attr_of hb (thn (he.run pins s σ H _ I h) fun w s1 ⟨x, H1, I1, rx, q⟩ => ?_)
  cases x <;> try exact q.elim
  cases rx
  obtain ⟨⟨dx, vs, hsl⟩, q⟩ := q
  exact SlX.getprop_sl (CX := L2.CX X.prog X.w) (E := E0) I1 hsl hc pf.at_ pf.get pf.tk pf.rc F hr (fun _ _ _ _ h => by obtain ⟨_, _, _, _, _, _, _, _, _, _, _, _, z⟩ := h; exact z.elim) q
end
/-! ### raise, try -/
def WD (E : XK) : WX := fun c d _ H => E c d H
theorem takesD {P : Program} {w : World} {K : Frag} {mg : Str → Option Value} {base : Heap} {N : List Str} {qual : Str} {scope : Scope} {f : Addr} {cd : Value} {A : Around} {outer : List Env} {s : Shared} {H : Hp} {E : XK} :
    Takes (cxD P w K mg base N qual scope f cd A outer s H E) (WD E) := takes_of rfl rfl rfl rfl
def dRaise (K : Frag) (x : Str) (W : WX) : TS := fun _ σ H => W (.ref (He.ga K x)) none σ H
theorem ps_rs {X : Cx} {x m : Str} {j : Nat} {p p2 pos pos' : Pos} {W : WX} (tk : Takes X W) (r : RsF X.K x) (gC : X.mg x = some (.ref (He.ga X.K x))) (hc : X.calm = true := by rfl) (hg : Gl X x := by rfl) (hdb : (x == ("__debug__" : Str)) = false := by decide) :
    PS X (.Raise (some (.Call (.Name x p) [.Constant (.str m) j p2] [] pos)) none pos') (dRaise X.K x W) := ps_raise hc tk (pmk_own PySem.F.excBase_ValueError r.q gC r.kp (raises_own r.sub r.ty) hg hdb)
/-! ### defaults -/
def EmpT (K : Frag) (v : V) : Prop := ∃ a, v = .ref a ∧ ∀ H, SqT K H a []
theorem empB_ok {K : Frag} {v : V} (h : empB K v = true) : EmpT K v := by
  cases v with
  | ref a =>
    refine ⟨a, rfl, fun H => ?_⟩
    have h : empA K a = true := h
    unfold empA at h
    split at h
    · rename_i c od its n osl q
      obtain ⟨h1, h2⟩ := He.ba h
      have e : its = #[] := of_decide_eq_true h2
      subst e
      exact .inr ⟨_, #[], n, q, congrArg Value.type (of_decide_eq_true h1), rfl, by simp, .nil⟩
    · cases h
  | _ => cases h
def spD (sp : Sp) (dvs : List V) : Sp := fun vs H Q E => sp (vs ++ dvs) H Q E
theorem mk_fnD {P : Program} {w : World} {K : Frag} {mg : Str → Option Value} {base : Heap} {x qual : Str} {params : Arguments} {body : List Stmt} {scope : Scope} {f : Addr} {fd : FuncData} {N ps : List Str} {k : Nat} {sp : Sp} {dvs ex : List V} {kws : List (Str × V)} (F : FunD K x qual params body scope dvs kws f fd) (S : FnScope N ps scope)
    (len : ∀ vs H Q E, sp vs H Q E → vs.length = ps.length) (hb : ∃ ds, Vals ex ds ∧ Binds K fd ps ds) {t : XK → TS}
    (hbody : ∀ (cdv : Value) (A : Around) (outer : List Env) (s : Shared) (H : Hp) (E : XK), Room k (A.deeper (envOfC qual scope s.heap.objs.size f cdv)) →
      PSs (cxD P w K mg base N qual scope f cdv A outer s H E) body (t E))
    (pure : ∀ vs H Q E, sp vs H Q E → t E { nx := fun _ H' => Q .non H', rt := Q } (start N vs) H) : FR P w K mg base (k + 1) f (spD sp ex) := by
  obtain ⟨ds, hv, hb⟩ := hb
  exact (FunD.ok (P := P) (w := w) (mg := mg) (base := base) (CX := L2.CX P w) (sp := sp) F S len fun cdv A outer s H vs Q E hr h => ⟨t E, hbody cdv A outer s H E hr, pure vs H Q E h⟩).raw hb hv
theorem spD_nil {P : Program} {w : World} {K : Frag} {mg : Str → Option Value} {base : Heap} {f : Addr} {k : Nat} {sp : Sp} (F : FR P w K mg base k f (spD sp [])) : FR P w K mg base k f sp :=
  FnR.imp F fun vs H Q E h => by show sp (vs ++ []) H Q E; rw [List.append_nil]; exact h
/-! ### functions behind wrappers -/
theorem propB_ok {K : Frag} {c f : Str} (h : propB c f K = true) : PropF K c f (uA K c f) := by
  obtain ⟨h1, h⟩ := He.ba h
  obtain ⟨h2, h⟩ := He.ba h
  obtain ⟨h3, h4⟩ := He.ba h
  refine ⟨He.eqO_ok h1, He.eqO_ok h2, of_decide_eq_true h3, ?_⟩
  split at h4
  · rename_i g r e
    rw [of_decide_eq_true h4] at e
    exact ⟨r, e⟩
  · cases h4
/-! ### defs by their addresses -/
theorem DfX.funD {K : Frag} {d : DfX} (hclo : d.clo = []) (e : fnX K (d.ad K) = d.val) (c : d.ok K = true) : ∃ fd, FunD K d.name d.qual d.params d.body d.scope (d.dvs K) (d.kws K) (d.ad K) fd := by
  obtain ⟨kp, c2⟩ := He.ba c
  unfold fnX at e
  split at e
  · rename_i oc od fd osl q
    rw [q] at c2
    obtain ⟨k1, k2⟩ := He.ba c2
    obtain ⟨k3, k4⟩ := He.ba k2
    obtain ⟨n1, n2, n3, n4, n5, n6, n7, n8, n9, n10, n11, n12, n13, n14, n15⟩ := fd
    unfold DfX.val at e
    rw [hclo] at e
    simp only [Option.some.injEq, Prod.mk.injEq, List.map_nil, List.map_eq_nil_iff] at e
    obtain ⟨h1, h2, h3, h4, h5, h6, h7, h8⟩ := e
    subst h1 h2 h3 h4 h5 h6 h7 h8
    exact ⟨_, ⟨oc, od, n8, n9, n10, n11, n12, n13, n14, osl, rfl, q, k1, He.dflB_ok k3, He.kwdB_ok k4⟩, kp⟩
  · cases e
/-! ### the hook -/
section
variable {fa : List He.Fa} {fx : List (Frag → Bool)} {fn : List DfX} {K : Frag}
theorem SaysX.fst (c : SaysX fa fx fn K) : (fa.all fun f => f.ok K) = true ∧ (fx.all fun f => f K) = true ∧ (fn.all fun d => d.ok K) = true := by
  have z : ((fa.all fun f => f.ok K) && ((fx.all fun f => f K) && fn.all fun d => d.ok K)) = true := congrArg (fun z : AlX => z.1) c
  obtain ⟨a, b⟩ := He.ba z
  exact ⟨a, He.ba b⟩
theorem SaysX.fact (c : SaysX fa fx fn K) (i : Nat) {f : He.Fa} (h : fa[i]? = some f := by rfl) : f.ok K = true := List.all_eq_true.mp c.fst.1 f (List.mem_of_getElem? h)
theorem SaysX.more (c : SaysX fa fx fn K) (i : Nat) {f : Frag → Bool} (h : fx[i]? = some f := by rfl) : f K = true := List.all_eq_true.mp c.fst.2.1 f (List.mem_of_getElem? h)
theorem SaysX.fnv (c : SaysX fa fx fn K) (i : Nat) {d : DfX} (h : fn[i]? = some d := by rfl) : fnX K (d.ad K) = d.val := by
  have e : fn.map (fun d => fnX K (d.ad K)) = fn.map DfX.val := congrArg (fun z : AlX => z.2) c
  have e2 : (fn.map fun d => fnX K (d.ad K))[i]? = (fn.map DfX.val)[i]? := by rw [e]
  rw [List.getElem?_map, List.getElem?_map, h] at e2
  exact Option.some.inj e2
theorem SaysX.def_ (c : SaysX fa fx fn K) (i : Nat) {d : DfX} (h : fn[i]? = some d := by rfl) (hclo : d.clo = [] := by rfl) : ∃ fd, FunD K d.name d.qual d.params d.body d.scope (d.dvs K) (d.kws K) (d.ad K) fd := by
  have e : fn.map (fun d => fnX K (d.ad K)) = fn.map DfX.val := congrArg (fun z : AlX => z.2) c
  have e2 : (fn.map fun d => fnX K (d.ad K))[i]? = (fn.map DfX.val)[i]? := by rw [e]
  rw [List.getElem?_map, List.getElem?_map, h] at e2
  exact DfX.funD hclo (Option.some.inj e2) (List.all_eq_true.mp c.fst.2.2 d (List.mem_of_getElem? h))
end
end S
namespace S
open PySem PySem.Spec PyProof.Rows L2
/-! ### bool(x): by its truth -/
theorem isType_bool : isType (.type "bool") = (pure true : Sem Bool) := by first | rfl | kernel_rfl
theorem bool_tr {prog : Program} {w : World} {A : Around} {E : Value → Shared → Prop} {s : Shared} {x : Value} {Q : Value → Shared → Prop} (h : wpAny (model prog w) A.in1.in1 (truthy x) (fun b s' => Q (.bool b) s') E s) : wpAny (model prog w) A (call (.type "bool") [x]) Q E s := by
  refine callType_codes (T := "bool") (Bi := Builtin.«object.__init__») (Q₁ := fun r s₁ => ∃ b, r = Value.bool b ∧ Q r s₁) PySem.F.called_bool (PySem.F.typeCall_bool_1 _) PySem.F.entry_object_init ?_ ?_
  · refine codeAny_of_tree ?_
    show wpAny _ A.in1.in1 (do checkBuiltinCall "bool.__new__" ⟨[.type "bool", x], []⟩; again (.builtin "bool.__new__" ⟨[.type "bool", x], []⟩)) _ _ s
    refine wpAny_bind (wpAny_of_eq (PySem.F.newCall_bool_1 _) (wpAny_pure ⟨plainId_quiet (by decide +kernel) _, codeAny_builtin PySem.F.entry_bool_new ?_⟩))
    rw [Around.under_plainId (by decide +kernel) _]
    unfold Builtin.«bool.__new__»
    refine wpAny_bind (wpAny_of_eq (a := true) isType_bool ?_)
    refine PySem.W.KFB.if_not rfl ?_
    refine wpAny_bind (wpAny_of_eq (a := true) PySem.F.conv_sub_bool ?_)
    refine PySem.W.KFB.if_not rfl ?_
    refine wpAny_bind (wpAny_of_eq (a := [x]) (by first | rfl | kernel_rfl) ?_)
    refine wpAny_bind (wpAny_mono h (fun b s₁ hb => ?_) fun _ _ y => y)
    exact wpAny_pure ⟨b, rfl, hb⟩
  · rintro obj s₁ ⟨b, rfl, hq⟩
    exact ⟨PySem.typeIs_bool _ _, PySem.F.args_object_init_2 _ _, object_init_meets PySem.F.called_bool.init.lookup PySem.F.called_bool.made (by decide) prog w A.in1 _ s₁ ⟨PySem.typeIs_bool _ _, rfl, hq⟩⟩
def cBool (K : Frag) : List V → Hp → VK → Prop := fun xs H Q => match xs with
  | [.int i] => Q (.bl (decide (i ≠ 0))) H
  | [.bl b] => Q (.bl b) H
  | [.ref p] => Rd K H p fun ys => Q (.bl (decide (ys ≠ []))) H
  | _ => False
theorem c_bool {X : Cx} : CallR X (.type "bool") (cBool X.K) := by
  intro pins s σ H xs us Q I r h
  have hl := line63
  match xs, h with
  | [.int i], h =>
    obtain ⟨u, rfl, ⟨t, rfl⟩⟩ := r.one
    refine bool_tr (PySem.P.truthy_int ⟨.bl (i != 0), H, I, rfl, ?_⟩)
    have e : (i != 0) = decide (i ≠ 0) := by by_cases h : i = 0 <;> simp [h]
    rw [e]; exact h
  | [.bl b], h =>
    obtain ⟨u, rfl, rfl⟩ := r.one
    exact bool_tr (wpAny_truthy_bool ⟨.bl b, H, I, rfl, h⟩)
  | [.ref p], ⟨⟨ys, hx, h⟩⟩ =>
    obtain ⟨u, rfl, rfl⟩ := r.one
    have e : (!ys.isEmpty) = decide (ys ≠ []) := by cases ys <;> simp
    rcases hx with hx | hx
    · obtain ⟨its, rv, pl, hz⟩ := I.list hx
      have hlen := rv.length
      exact bool_tr (wpAny_truthy_list pl.isList (by simp only [List.size_toArray]; omega) ⟨.bl (!ys.isEmpty), H, I.tok _, by rw [isEmpty_of rv]; rfl, by rw [e]; exact h⟩)
    · obtain ⟨its, rv, pl, hz⟩ := I.tuple hx
      have hlen := rv.length
      exact bool_tr (truthy_tuple pl (by simp only [List.size_toArray]; omega) ⟨.bl (!ys.isEmpty), H, I.tok _, by rw [isEmpty_of rv]; rfl, by rw [e]; exact h⟩)
section
variable {X : Cx} {k : Nat} {g : Addr} {sp : Sp} {E : XK} {c m : Str} {ups : List Str} {tys : List String}
/-- the class's own def, called for an operator -/
theorem run_op {A : Around} {pins : List (Addr × Obj)} {σ : L2.St} {H : Hp} {s : Shared} {Q : VK} {us : List Value} {vs : List V} (F : FnR X.prog X.w X.K X.mg X.base (L2.CX X.prog X.w) k g sp) (hr : Room k A) (e0 : Env0 X.prog X.w X.K X.mg X.base A X.stack s H) (hx : ∀ σ, PassesAt (L2.CX X.prog X.w) X σ E)
    (I : Inv X pins σ H s) (r : Vals vs us) (h : sp vs H Q E) : wpAny (model X.prog X.w) A (call (.ref g) us) (EP X pins σ Q) X.xe s := by
  refine wpAny_call (codeAny_mono (F A X.stack s H us vs Q E hr e0 r h) fun r s' hq => ?_)
  cases r with
  | error e => exact hx σ pins H s e s' I hq
  | ok fl =>
    cases fl with
    | ret u => exact I.after hq
    | next => exact False.elim hq
    | brk => exact False.elim hq
    | cont => exact False.elim hq
theorem mf_first (mf : MF X.K c ups tys) : PySem.W.selfFirst X.K (He.ga X.K c) = true := by
  obtain ⟨cd, e, _, hm⟩ := mf.cd
  unfold PySem.W.selfFirst
  rw [e, Option.any_some, hm]
  simp
/-- x op y, both instances of c, its own def; r: of other values -/
def oOwn (K : Frag) (c : Str) (sp : Sp) (E : XK) (r : R2) : R2 := fun x y H Q => match x, y with
  | .ref a, .ref b => IsO K H c a (IsO K H c b (sp [.ref a, .ref b] H Q E))
  | x, y => r x y H Q
theorem op_ownB {op : Operator} {r : R2} (mf : MF X.K c ups tys) (hm : Meth X.K (He.ga X.K c) (PySem.dunder op.info.2) g) (F : FnR X.prog X.w X.K X.mg X.base (L2.CX X.prog X.w) k g sp) (hr : Room k X.A) (hx : ∀ σ, PassesAt (L2.CX X.prog X.w) X σ E) (h0 : OpR X (binaryOp op) r) : OpR X (binaryOp op) (oOwn X.K c sp E r) := by
  intro pins s σ H x y v u Q I rx ry q
  have own : ∀ a b, x = .ref a → y = .ref b → IsO X.K H c a (IsO X.K H c b (sp [.ref a, .ref b] H Q E)) → wpAny (model X.prog X.w) X.A (binaryOp op v u) (EP X pins σ Q) X.xe s := by
    intro a b ex ey q
    subst ex ey
    cases rx
    cases ry
    obtain ⟨⟨dx, vs, hsl⟩, ⟨⟨dy, ws, hsl2⟩, q⟩⟩ := q
    obtain ⟨sl, od, _, J, _⟩ := SlX.slt_inst I hsl
    obtain ⟨sl', od', _, J', _⟩ := SlX.slt_inst I hsl2
    obtain ⟨m, hF⟩ := I.fr
    refine PySem.W.binop_K hF I.ok.mod.kin J J'.type (mf_first mf) hm.at_ hm.fn ?_
    refine wpAny_mono (run_op (us := [.ref a, .ref b]) (vs := [.ref a, .ref b]) F hr I.env0 hx I (.cons rfl (.cons rfl .nil)) q) (fun w s' z => ?_) fun _ _ x => x
    obtain ⟨z', H', I', rz, qz⟩ := z
    exact SlX.cmpback rz ⟨z', H', I', rz, qz⟩
  cases x <;> cases y <;> first | exact own _ _ rfl rfl q | exact h0 pins s σ H _ _ v u Q I rx ry q
/-- op x, an instance of c -/
def uOwn (K : Frag) (c : Str) (sp : Sp) (E : XK) : V → Hp → VK → Prop := fun x H Q => match x with
  | .ref a => IsO K H c a (sp [.ref a] H Q E)
  | _ => False
theorem u_inv (hm : Meth X.K (He.ga X.K c) "__invert__" g) (F : FnR X.prog X.w X.K X.mg X.base (L2.CX X.prog X.w) k g sp) (hr : Room k X.A) (hx : ∀ σ, PassesAt (L2.CX X.prog X.w) X σ E) : UnR X (unaryOp .Invert) (uOwn X.K c sp E) := by
  intro pins s σ H x v Q I rx q
  cases x <;> try exact q.elim
  cases rx
  obtain ⟨⟨dx, vs, hsl⟩, q⟩ := q
  obtain ⟨sl, od, _, J, _⟩ := SlX.slt_inst I hsl
  obtain ⟨m, hF⟩ := I.fr
  exact PySem.W.ksp_inv hF I.ok.mod.kin J hm.at_ hm.fn (run_op (us := [.ref _]) (vs := [.ref _]) F hr I.env0 hx I (.cons rfl .nil) q)
end
/-! ### tuples of the module -/
def TupG (K : Frag) (x : Str) (vs : List V) : Prop := ∀ H, SqT K H (He.ga K x) vs
theorem tupG_ok {K : Frag} {x : Str} {vs : List He.Dv} (h : He.tupB K x vs = true) : TupG K x (vs.map (He.Dv.v K)) := fun H => He.tupB_ok h H
end S
namespace S
open PySem PySem.Spec PyProof.Rows L2
/-! ### enumerate over a tuple -/
set_option maxHeartbeats 4000000 in
theorem meets_enum1 {v : Value} {o : Obj} {H : Heap → Prop} (B : Begins v o H) :
    Meets (Builtin.«enumerate.__new__» ⟨[.type "enumerate", v], []⟩) (fun _ R s => H s.heap ∧
      R (.ok (.ret (.ref (s.heap.push o).objs.size))) { s with heap := (s.heap.push o).push { cls := .type "enumerate", data := .fields #[.none, .bool false, .ref s.heap.objs.size, rawInt 0, .none, .none] } }) :=
  .of_wp fun prog w A R s h => by
    obtain ⟨hp, g, d, tk, os⟩ := s; obtain ⟨h1, h⟩ := h
    have hsub := sub_enumerate
    have q1 : ∀ {A' : Around} {E : Value → Shared → Prop} {Q : Value → Shared → Prop}, Q (.ref hp.objs.size) ⟨hp.push o, g, d, tk, os⟩ → wpAny (model prog w) A' (pyIter v) Q E ⟨hp, g, d, tk, os⟩ :=
      fun q => B.iter prog w _ _ ⟨hp, g, d, tk, os⟩ _ h1 q
    wp_walk using q1
    refine wpAny_stack_any fun st => wpAny_pure ?_
    split
    · rename_i c _ _ _ _ _
      cases (c == Value.type "enumerate")
      · wp_walk using q1
        exact ⟨_, rfl, h⟩
      · wp_walk using q1
        exact ⟨_, rfl, h⟩
    · wp_walk using q1
      exact ⟨_, rfl, h⟩
theorem enum_begins1 {prog : Program} {w : World} {A : Around} {E : Value → Shared → Prop} {s : Shared} {v : Value} {o : Obj} {H : Heap → Prop} {Q : Value → Shared → Prop} (B : Begins v o H) (h1 : H s.heap)
    (h : ∀ h', IsEnum h' (s.heap.objs.size + 1) s.heap.objs.size 0 .none → h'.get? s.heap.objs.size = some o → h'.objs.size = s.heap.objs.size + 2 →
      (∀ b o, s.heap.get? b = some o → h'.get? b = some o) → Q (.ref (s.heap.objs.size + 1)) { s with heap := h' }) :
    wpAny (model prog w) A (call (.type "enumerate") [v]) Q E s := by
  refine callType_new F.called_enumerate (by decide) (F.typeCall_enumerate_1 _) (F.newCall_enumerate_1 _) (fun obj => F.args_object_init_2 obj _) F.entry_enumerate_new
    (meets_enum1 B) ⟨h1, ?_⟩
  have hz : (s.heap.push o).objs.size = s.heap.objs.size + 1 := Heap.size_push ..
  show _ ∧ _
  rw [hz]
  have he : IsEnum ((s.heap.push o).push { cls := .type "enumerate", data := .fields #[.none, .bool false, .ref s.heap.objs.size, rawInt 0, .none, .none] }) (s.heap.objs.size + 1) s.heap.objs.size 0 .none := by
    have := Heap.get?_push_size (s.heap.push o) (o := { cls := .type "enumerate", data := .fields #[.none, .bool false, .ref s.heap.objs.size, rawInt 0, .none, .none] }) rfl
    rw [hz] at this; exact this
  refine ⟨⟨_, he, rfl⟩, h _ he (Heap.get?_push_of_some _ (Heap.get?_push_size _ B.free)) (by rw [Heap.size_push, hz]) fun b o x => Heap.get?_push_of_some _ (Heap.get?_push_of_some _ x)⟩
/-- the tuple at a, each item in a new pair -/
def Iet (K : Frag) (a : Addr) : It :=
  ⟨fun i H => ∃ (xs : List V) (x : V), SqT K H a xs ∧ xs[i]? = some x, fun i H v H' => ∃ T x, v = .ref T ∧ H T = none ∧ H' = upd H T (.tup [.int (i : Nat), x]) ∧ ∀ xs, SqT K H a xs → xs[i]? = some x, fun i H => ∃ xs : List V, SqT K H a xs ∧ xs.length ≤ i⟩
theorem enum_endT {prog : Program} {w : World} {A : Around} {E : Value → Shared → Prop} {s : Shared} {e it l : Addr} {i : Nat} {c : Int} {items : Array Value} {old : Value} {Q : Option Value → Shared → Prop} (hh : A.handled = none)
    (he : IsEnum s.heap e it c old) (hit : s.heap.IsTupleIter it l i) (hl : s.heap.IsTuple l items) (hx : items[i]? = none)
    (hQ : ∀ h', Heap.ExtBut it s.heap h' → Q none { s with heap := h' }) : wpAny (model prog w) A (pyNext (.ref e)) Q E s := by
  have hT : s.TypeIs (.ref e) "enumerate" := ⟨_, he, rfl⟩
  unfold pyNext
  refine wpAny_bind (wpAny_attempt (wpAny_callSpecial?_slot (name := Str.ofString "__next__") hT F.slot_enumerate_next
    (wpAny_call_entry F.slot_enumerate_next hT F.entry_enumerate_next ?_ (F.args_enumerate_next_1 _))))
  show wpAny _ _ (field (.ref e) 2 >>= _) _ _ _
  refine wpAny_bind (wpAny_field he rfl (x := .ref it) rfl ?_)
  refine wpAny_bind (wpAny_nextOf_tuple_end hh hit hl hx fun h' x he' hx' => ?_)
  obtain ⟨o, ho, hc⟩ := hx'
  refine wpAny_bind (wpAny_isInstance (T := "StopIteration") (b := true) ⟨o, ho, hc⟩ isSubtype_stop ?_)
  exact wpAny_pure (hQ _ he')
theorem turn_enumT {P : Program} {w : World} {K : Frag} {elts : List Expr} {kk : Nat} {tpos : Pos} (a e it : Addr) :
    Turn P w K (.Tuple elts kk tpos) (Iet K a) [e, it] e (fun i h => (∃ old, IsEnum h e it ((i : Nat) : Int) old) ∧ h.IsTupleIter it a i ∧ e ≠ it) where
  mem := by simp
  obj := fun i h st b hb => by
    obtain ⟨⟨old, he⟩, ⟨o, ho, hc, hd⟩, _⟩ := st
    have e' : b = e ∨ b = it := by simpa using hb
    rcases e' with z | z
    · rw [z]; exact ⟨_, he, fun v q => nomatch q⟩
    · rw [z]; exact ⟨o, ho, fun v q => by rw [hd] at q; cases q⟩
  keep := fun i h h' st k => let ⟨⟨old, he⟩, hi, hne⟩ := st; ⟨⟨old, k e (by simp) _ he⟩, hi.at fun o q => k it (by simp) o q, hne⟩
  item := by
    intro X hP hw hK hc i pins s σ H E I hf st hg
    subst hP hw hK
    obtain ⟨⟨old, he⟩, hit, hne⟩ := st
    obtain ⟨xs, x, hq, hx⟩ := hg
    obtain ⟨its, rv, p, hz⟩ := I.tuple hq
    have ht : s.heap.IsTuple a its.toArray := p
    obtain ⟨u, hu, ru⟩ := rv.get hx
    have hel : e < s.heap.objs.size := Heap.lt_size he
    have hil : it < s.heap.objs.size := by obtain ⟨_, q, _⟩ := hit; exact Heap.lt_size q
    have hat : a ≠ it := by
      rintro rfl
      obtain ⟨o1, e1, c1, _⟩ := hit
      obtain ⟨o2, e2, c2, _⟩ := ht
      rw [e1] at e2; cases e2
      rw [c1] at c2; exact absurd c2 (by simp)
    have hae : e ≠ a := by
      rintro rfl
      obtain ⟨o2, e2, c2, _⟩ := ht
      rw [show s.heap.get? e = _ from he] at e2; cases e2
      exact absurd c2 (by simp)
    have D := Draws.tuple (prog := X.prog) (w := X.w) (A := X.A.in1) (show X.A.in1.handled = none from I.ok.hd hc) it a hat its.toArray
    have hlt : i < its.toArray.size := by
      have := rv.length
      obtain ⟨h1, _⟩ := List.getElem?_eq_some_iff.mp hx
      simp; omega
    refine wpAny_pyNext_enum_itemC D he ⟨hit, ht⟩ hlt hne (by simp; exact ⟨hne, hae⟩) fun u2 h' tk hP ho hst hT hsz hk => ?_
    have eu : u2 = u := by
      have h1 : its.toArray[i]? = some u2 := hP
      rw [List.getElem?_toArray] at h1
      rw [hu] at h1
      exact (Option.some.inj h1).symm
    subst eu
    refine ⟨_, rfl, wpAny_letOwnedTupleGo_enum (s := { s with heap := h', toks := tk + 1 }) ho fun h'' he' sb => ?_⟩
    have hT2 : h''.get? s.heap.objs.size = some { cls := .type "tuple", data := .seq #[.int i tk, u2] } := (sb.2 _ (Nat.ne_of_gt hel)).trans hT
    have new : ObjOk X.prog X.w (upd H s.heap.objs.size (.tup [.int (i : Nat), x])) h'' s.heap.objs.size (.tup [.int (i : Nat), x]) :=
      ⟨by show 2 ≤ sizeLine; decide, [.int i tk, u2], .cons ⟨_, rfl⟩ (.cons ru .nil), ⟨_, hT2, rfl, _, rfl⟩⟩
    have I1 : Inv X pins σ (upd H s.heap.objs.size (.tup [.int (i : Nat), x])) { s with heap := h'', toks := tk + 1 } :=
      I.turnedNew (ch := [e, it]) (fun b ob hb q => (sb.2 b (fun z => hb (by simp [z]))).trans (hk b ob (fun z => hb (by simp [z])) (fun z => hb (by simp [z])) q)) hf (Nat.le_refl _) new
    refine ⟨.ref s.heap.objs.size, _, I1, rfl, ⟨_, x, rfl, I.hok.fresh (Nat.le_refl _), rfl, fun ys hy => by rw [I.tuple_inj hy hq]; exact hx⟩, ⟨⟨u2, ?_⟩, hst.1.at fun o q => (sb.2 it (Ne.symm hne)).trans q, hne⟩, fun b hb => ?_⟩
    · have e1 : ((i + 1 : Nat) : Int) = (i : Int) + 1 := by omega
      rw [e1]; exact he'
    · have hb' : b < s.heap.objs.size := by
        have e' : b = e ∨ b = it := by simpa using hb
        rcases e' with z | z
        · rw [z]; exact hel
        · rw [z]; exact hil
      rw [upd_ne (Nat.ne_of_lt hb')]
      exact (hf b hb).1
  done := by
    intro X hP hw hK hc i pins s σ H E I hf st hg
    subst hP hw hK
    obtain ⟨⟨old, he⟩, hit, hne⟩ := st
    obtain ⟨xs, hq, hx⟩ := hg
    obtain ⟨its, rv, p, hz⟩ := I.tuple hq
    have ht : s.heap.IsTuple a its.toArray := p
    obtain ⟨f0, f1, f2, f3, f4, f5⟩ := hf it (by simp)
    have hl := rv.length
    exact enum_endT (I.ok.hd hc) he hit ht (by simp; omega) fun h' eb => ⟨rfl, I.turned (t' := s.toks) (fun b o hb q => eb b o hb q) f0 f1 f3 f4 f5⟩
  self := fun A i s Q E st h => let ⟨⟨_, he⟩, _⟩ := st; wpAny_pyIter_enum he h
/-- over the tuple at p -/
structure EnW (K : Frag) (H : Hp) (p : Addr) (R : It → Hp → Prop) : Prop where
  ex : ∃ xs, SqT K H p xs
  go : R (Iet K p) H
def iEn (K : Frag) (ta : TE) : TI := fun σ H R => ta σ H fun x H1 => match x with
  | .ref p => EnW K H1 p R
  | _ => False
theorem pi_en {X : Cx} {e : Expr} {ta : TE} {p pos tpos : Pos} {elts : List Expr} {kk : Nat} (hm : X.mg "enumerate" = none) (ha : PE X e ta) (hg : Gl X "enumerate" := by rfl) (hs : starEach [e] X.env = [(false, eval e X.env)] := by rfl) :
    PI X (.Tuple elts kk tpos) (.Call (.Name "enumerate" p) [e] [] pos) (iEn X.K ta) := by
  refine ⟨fun pins s σ H R I h => ?_⟩
  have hA : PA X [e] (tCons ta tNil) := pa_cons ha pa_nil hs
  refine Call_ (ld_blt I hg hm boot_enumerate (PyProof.Rows.callWith_type1 (thn (hA.run pos pins s σ H (fun vs H1 => ∃ a xs, vs = [V.ref a] ∧ SqT X.K H1 a xs ∧ R (Iet X.K a) H1) I ?hq) fun us s1 ⟨vs, H1, I1, r1, q1⟩ => ?_) hs rfl))
  case hq =>
    show ta σ H fun x H1 => _
    have key : ∀ (x : V) (H1 : Hp), (match x with | .ref p => EnW X.K H1 p R | _ => False) → (tNil σ H1 fun xs H2 => ∃ a ys, x :: xs = [V.ref a] ∧ SqT X.K H2 a ys ∧ R (Iet X.K a) H2) := by
      intro x H1 q
      cases x <;> try exact q.elim
      obtain ⟨⟨xs, hx⟩, q⟩ := q
      exact ⟨_, xs, rfl, hx, q⟩
    have e : (fun (x : V) (H1 : Hp) => (match x with | .ref p => EnW X.K H1 p R | _ => False)) = fun x H1 => (tNil σ H1 fun xs H2 => ∃ a ys, x :: xs = [V.ref a] ∧ SqT X.K H2 a ys ∧ R (Iet X.K a) H2) := by
      funext x H1
      refine propext ⟨key x H1, fun ⟨a, ys, e, hy, q⟩ => ?_⟩
      have e2 : x = .ref a := (List.cons.inj e).1
      subst e2
      exact ⟨⟨ys, hy⟩, q⟩
    rw [← e]
    exact h
  obtain ⟨a, xs, ex, hq, q⟩ := q1
  subst ex
  cases r1 with
  | cons r rr =>
    cases rr
    cases r
    obtain ⟨its, rv, p', hz⟩ := I1.tuple hq
    refine enum_begins1 (begins_tuple a its.toArray) (show s1.heap.IsTuple a its.toArray from p') fun h' he hit hsz hk => wpAny_pyIter_enum he ?_
    have I2 : Inv X pins σ H1 { s1 with heap := h' } := I1.kept (t' := s1.toks) hk
    refine ⟨s1.heap.objs.size + 1, [s1.heap.objs.size + 1, s1.heap.objs.size], _, _, H1, rfl, I2, turn_enumT a (s1.heap.objs.size + 1) s1.heap.objs.size, ⟨⟨.none, he⟩, ⟨_, hit, rfl, rfl⟩, Nat.succ_ne_self _⟩, fun b hb => ?_, q⟩
    have e' : b = s1.heap.objs.size + 1 ∨ b = s1.heap.objs.size := by simpa using hb
    have hle : s1.heap.objs.size ≤ b := by
      rcases e' with z | z
      · rw [z]; exact Nat.le_add_right _ _
      · rw [z]; exact Nat.le_refl _
    exact I1.fpOk hle (I1.hok.fresh hle)
/-- a loop over them: each pair is new -/
theorem for_en {K : Frag} {p : Addr} {xs : List V} {g : TG} {tb : TS} {D : Ends} {σ : L2.St} {H : Hp} (Pv : Nat → L2.St → Hp → Prop) (hx : SqT K H p xs) (h0 : Pv 0 σ H) (hl : ∀ i σ H', i ≤ xs.length → Pv i σ H' → SqT K H' p xs)
    (hs : ∀ (i : Nat) x σ H, xs[i]? = some x → Pv i σ H → ∀ T, H T = none → g (.ref T) σ (upd H T (.tup [.int (i : Int), x])) fun σ2 H2 => tb { D with nx := Pv (i + 1), ct := Pv (i + 1), bk := D.nx } σ2 H2) (hd : ∀ σ H, Pv xs.length σ H → D.nx σ H) :
    EnW K H p (LoopR D g tb σ) := by
  refine ⟨⟨xs, hx⟩, fun i m σ H => i ≤ xs.length ∧ m = xs.length - i ∧ Pv i σ H, ⟨_, Nat.zero_le _, rfl, h0⟩, ?_⟩
  rintro i m σ H ⟨hi, rfl, hp⟩
  have hq := hl i σ H hi hp
  by_cases hlt : i < xs.length
  · have hxi : xs[i]? = some xs[i] := List.getElem?_eq_getElem hlt
    refine .inr ⟨⟨xs, _, hq, hxi⟩, Pv (i + 1), fun σ' H' q => ⟨_, by omega, by omega, rfl, q⟩, ?_⟩
    rintro v H' ⟨T, y, rfl, hT, rfl, hy⟩
    have e := hy xs hq
    exact hs i y σ H e hp T hT
  · have e : i = xs.length := by omega
    subst e
    exact .inl ⟨⟨xs, hq, Nat.le_refl _⟩, hd _ _ hp⟩
/-- x in a list or tuple of scalars -/
def oIn (K : Frag) : R2 := fun x y H Q => match y with
  | .ref p => Rd K H p fun xs => Need (flatV x = true ∧ xs.all flatV = true) (Q (.bl (inV x xs)) H)
  | _ => False
def oNin (K : Frag) : R2 := fun x y H Q => match y with
  | .ref p => Rd K H p fun xs => Need (flatV x = true ∧ xs.all flatV = true) (Q (.bl (!inV x xs)) H)
  | _ => False
theorem o_in {X : Cx} : OpR X (compareOp .In) (oIn X.K) := OpR.of op_in_seq fun x y H Q q => by
  cases y <;> try exact q.elim
  obtain ⟨⟨xs, hx, ⟨⟨f1, f2⟩, q⟩⟩⟩ := q
  exact ⟨_, xs, rfl, hx, f1, f2, q⟩
theorem o_nin {X : Cx} : OpR X (compareOp .NotIn) (oNin X.K) := OpR.of op_notIn_seq fun x y H Q q => by
  cases y <;> try exact q.elim
  obtain ⟨⟨xs, hx, ⟨⟨f1, f2⟩, q⟩⟩⟩ := q
  exact ⟨_, xs, rfl, hx, f1, f2, q⟩
/-- sorted(a list of numbers) -/
structure Srt (K : Frag) (H : Hp) (p : Addr) (Q : V → Hp → Prop) : Prop where
  ex : ∃ ns : List Int, SqL K H p (ns.map V.int) ∧ ∀ (ns' : List Int) (q : Addr), ns'.Perm ns → ns'.Pairwise (· ≤ ·) → H q = none → Q (.ref q) (upd H q (.lst (ns'.map V.int)))
def cSorted (K : Frag) : List V → Hp → VK → Prop := fun xs H Q => match xs with
  | [.ref p] => Srt K H p Q
  | _ => False
theorem c_sorted {X : Cx} : CallR X (.builtin "sorted") (cSorted X.K) := CallR.of cr_sortedI fun xs H Q q => by
  match xs, q with
  | [.ref p], ⟨⟨ns, h1, h2⟩⟩ => exact ⟨p, ns, rfl, h1, h2⟩
end S
namespace S
open PySem PySem.Spec PyProof.Rows L2
/-! ### number * number, list * number -/
def oMulA : R2 := fun x y H Q => match x, y with
  | .int i, .int j => Need (CMul i j) (Q (.int (i * j)) H)
  | .ref l, .int k => Ls H l fun xs => Need (-(2 ^ 63) ≤ k ∧ k < 2 ^ 63 ∧ xs.length * k.toNat ≤ sizeLine) (NewL H (List.replicate k.toNat xs).flatten Q)
  | _, _ => False
theorem o_mulA {X : Cx} : OpR X (binaryOp .Mult) oMulA := OpR.of (op_mul.or op_rep) fun x y H Q q => by
  cases x <;> cases y <;> try exact q.elim
  · exact .inl ⟨_, _, rfl, rfl, q.c, q.q⟩
  · obtain ⟨⟨xs, h, ⟨⟨h1, h2, h3⟩, ⟨q⟩⟩⟩⟩ := q
    exact .inr ⟨_, _, xs, rfl, rfl, h, h1, h2, h3, q⟩
/-! ### staticmethods -/
structure StF (K : Frag) (c m : Str) : Prop where
  rd : PySem.W.readsIn K (He.ga K c) (.type "type") = true
  ga : PySem.W.specialIn K (.ref (He.ga K c)) "__getattribute__" = some (some (.builtin "type.__getattribute__"))
  at_ : PySem.W.findCls K (.ref (He.ga K c)) (.type "type") m = some (.get (.builtin "staticmethod.__get__") (.ref (He.ma K (He.ga K c) m)) .none (.ref (He.ga K c)))
  rc : ∃ rest, PySem.W.recIn K (He.ma K (He.ga K c) m) "staticmethod" = some (.ref (uA K c m) :: rest)
  kp : PySem.W.keepIn K (.ref (uA K c m)) = true
theorem statB_ok {K : Frag} {c m : Str} (h : statB c m K = true) : StF K c m := by
  obtain ⟨h1, h⟩ := He.ba h
  obtain ⟨h2, h⟩ := He.ba h
  obtain ⟨h3, h⟩ := He.ba h
  obtain ⟨h4, h5⟩ := He.ba h
  refine ⟨h1, He.eqO_ok h2, ?_, ?_, h5⟩
  · clear h4
    split at h3
    · rename_i g p D e
      obtain ⟨k1, k⟩ := He.ba h3
      obtain ⟨k2, k3⟩ := He.ba k
      rw [e, of_decide_eq_true k1, of_decide_eq_true k2, of_decide_eq_true k3]
    · cases h3
  · clear h3
    split at h4
    · rename_i g r e
      rw [of_decide_eq_true h4] at e
      exact ⟨r, e⟩
    · cases h4
section
variable {X : Cx} {k : Nat} {sp : Sp} {E : L2.St → XK} {c m : Str} {pos apos : Pos} {o e : Expr} {es : List Expr} {t : TA}
theorem getstat_ok {pins : List (Addr × Obj)} {σ : L2.St} {H : Hp} {s : Shared} {A : Around} {E : Value → Shared → Prop} {pl : Sem Bool} {Q : Value × List Value → Shared → Prop} (I : Inv X pins σ H s) (r : StF X.K c m) (h : ∀ s', Inv X pins σ H s' → Q (.ref (uA X.K c m), []) s') :
    wpAny (model X.prog X.w) A (getMethod (.ref (He.ga X.K c)) m pl) Q E s := by
  obtain ⟨rest, hp⟩ := r.rc
  refine PySem.W.method_cls I.kIn r.ga (PySem.W.cls_bind I.kIn r.rd r.at_ ?_)
  refine wpAny_call (PySem.W.sm_get (s := { s with toks := s.toks + 1 }) I.kIn hp (PySem.W.handed_on rfl ?_))
  exact h _ (I.tok _)
/-- C.m(e, ..), m a staticmethod -/
def dStat (K : Frag) (sp : Sp) (E : L2.St → XK) (t : TA) : TE := fun σ H Q => t σ H fun vs H1 => sp vs H1 Q (E σ)
theorem pe_stat {pl : Sem Bool} (r : StF X.K c m) (F : FnR X.prog X.w X.K X.mg X.base (L2.CX X.prog X.w) k (uA X.K c m) sp) (hr : Room k X.A) (hx : ∀ σ, PassesAt (L2.CX X.prog X.w) X σ (E σ)) (he : PE X o (tC (.ref (He.ga X.K c)))) (ha : PA X (e :: es) t)
    (hst : starEach (e :: es) X.env = (false, eval e X.env) :: starEach es X.env := by rfl) (hpl : (backTo pos (starEach es X.env)).any (·.1) = false := by rfl)
    (ht : eval (.Call (.Attribute o m apos) (e :: es) [] pos) X.env = (do
      let ov ← eval o X.env
      standAt apos.atName
      let (f, first) ← holding [ov] (getMethod ov m pl)
      callWith pos f first (backTo pos (starEach (e :: es) X.env)) (backToKw pos (keywordEach [] X.env))) := by rfl) :
    PE X (.Call (.Attribute o m apos) (e :: es) [] pos) (dStat X.K sp E t) := by
  refine ⟨fun pins s σ H Q I h => ?_⟩
  refine PySem.W.methodCall_KW (pl := pl) (thn (he.run pins s σ H (fun x H1 => x = .ref (He.ga X.K c) ∧ t σ H1 fun vs H2 => sp vs H2 Q (E σ)) I ⟨rfl, h⟩) fun u s1 ⟨x, H1, I1, rx, ex, q⟩ => ?_) ht
  subst ex
  cases rx
  refine getstat_ok I1 r fun s2 I2 => ?_
  refine PySem.W.callWith_K (first := []) (h₀ := X.base) I2.ok.mod.kin r.kp (thn (ha.run pos pins s2 σ H1 _ I2 q) fun us s3 ⟨ws, H2, I3, r3, q2⟩ => ⟨I3.kIn, ?_⟩) hst hpl
  exact run_R F hr (hx σ) I3 r3 q2
end
end S
namespace S
open PySem PySem.Spec PyProof.Rows L2
/-! ### exceptions with an own __init__ over super().__init__ -/
theorem oexB_ok {K : Frag} {c : Str} (h : oexB c K = true) : OexC K (He.ga K c) := by
  obtain ⟨h1, h⟩ := He.ba h
  obtain ⟨h2, h⟩ := He.ba h
  obtain ⟨h3, h⟩ := He.ba h
  obtain ⟨h4, h5⟩ := He.ba h
  refine ⟨?_, He.eqO_ok h2, of_decide_eq_true h3, of_decide_eq_true h4, h5⟩
  clear h2 h3 h4 h5 h
  split at h1
  · rename_i dd cd sl ho
    split at h1
    · rename_i C' bm k0 k1 k2 k3 n k5 hm hs
      simp only [Bool.and_eq_true, beq_iff_eq, Bool.not_eq_true'] at h1
      obtain ⟨⟨⟨⟨e1, rfl⟩, hdel⟩, hd⟩, ht⟩ := h1
      obtain ⟨nm, bs, mro, ns, qn, hdc, sn, sub, ab, col, del⟩ := cd
      dsimp only at hm hdel hd
      subst hm hdel hd
      have hsl : sl = #[k0, k1, k2, k3, some (.builtin "ValueError.__new__"), k5] := by
        obtain ⟨l⟩ := sl
        simp only at hs
        rw [hs]
      subst hsl
      exact ⟨nm, qn, ns, bs, bm, sn, sub, ab, col, dd, k0, k1, k2, k3, k5, by rw [ho, e1], ht⟩
    · cases h1
  · cases h1
/-- what the written part says of such a class: fI its __init__ -/
structure XiF (P : Program) (K : Frag) (c fld nm qual : Str) (params : Arguments) (body : List Stmt) (scope : Scope) (fI : Addr) (fd : FuncData) : Prop where
  fn : ∃ oc od osl kV doc pm an cda ct cc, fd = PySem.W.ksFn nm qual params body scope .none kV doc pm an (.ref cda) ct cc ∧ K.lookup fI = some ⟨oc, od, .func fd, osl⟩ ∧ PySem.W.codeIn K (.ref cda) qual = true ∧
    (∃ cl cld csl, K.lookup cc = some ⟨cl, cld, .cell (some (.ref (He.ga K c))), csl⟩) ∧ ∃ ccl cdd vs ccs file tf, K.lookup cda = some ⟨ccl, cdd, .fields vs, ccs⟩ ∧ vs[2]? = some (.str file tf) ∧ ((P.main.file : Str) == file) = true
  sub : PySem.W.mroIn K (He.ga K c) (.ref (He.ga K c)) = some true
  sup : PySem.W.ks_superIn K (He.ga K c) (He.ga K c) "__init__" = some (some (.builtin "ValueError.__init__"))
  ve : PySem.W.subIn K (.ref (He.ga K c)) (.type "ValueError") = some true
  st : PySem.W.nsIn K cStatics "thirdparty.any" = some none
  oex : OexC K (He.ga K c)
  no : PySem.W.findIn K (.ref (He.ga K c)) fld = some none
  ini : PySem.W.findIn K (.ref (He.ga K c)) "__init__" = some (some (.ref fI))
  tI : PySem.W.typeIn K (.ref fI) = some (.type "function")
  top : (P.main.scope.names.lookup ("super" : Str)).isSome = false
/-- the promise: the field is kept -/
def spXi (K : Frag) (c fld : Str) : Sp := fun vs H Q _ => ∃ (a : Addr) (v : V), vs = [.ref a, v] ∧ H a = some (exo a (He.ga K c) none) ∧ ∀ dx, H dx = none → dx ≠ a → Q .non (upd (upd H dx (exd dx [(fld, v)])) a (exo a (He.ga K c) (some dx)))
section
variable {P : Program} {w : World} {K : Frag} {mg : Str → Option Value} {base : Heap} {CX : CXT} {c fld nm qual par msg : Str} {params : Arguments} {body : List Stmt} {scope : Scope} {fI : Addr} {fd : FuncData} {p0 p1 p2 p3 p4 p5 p6 p7 p8 p9 : Pos} {j : Nat}
theorem xi_ok {k : Nat} {pl : Env → Sem Bool} (D : XiF P K c fld nm qual params body scope fI fd) (hms : mg "super" = none)
    (hbody : body = [.Expr (.Call (.Attribute (.Call (.Name "super" p0) [] [] p1) "__init__" p2) [.Constant (.str msg) j p3] [] p4) p5, .Assign [.Attribute (.Name "self" p6) fld p7] (.Name par p8) p9])
    (hp : ∃ ar, (params.posonlyargs ++ params.args).head? = some ar ∧ ar.arg = "self") (hk : scope.kind = .function) (hco : scope.isCoroutine = false) (hgen : scope.isGenerator = false) (hcell : ∀ x ∈ scope.names, x.2 ≠ .cell)
    (hks : scope.names.lookup ("super" : Str) = some .globalImplicit) (hkc : scope.names.lookup ("__class__" : Str) = some .free) (hka : scope.names.lookup ("self" : Str) = some .local) (hkp : scope.names.lookup par = some .local) (hne : par ≠ "self") (hpd : (par == ("__debug__" : Str)) = false)
    (hsw : ∀ env, swapsWith (.Name par p8) (some (.Attribute (.Name "self" p6) fld p7)) p9.line env = pure false) (hsw2 : ∀ env, swapsWith (.Call (.Attribute (.Call (.Name "super" p0) [] [] p1) "__init__" p2) [.Constant (.str msg) j p3] [] p4) none p5.line env = pure false)
    (hev : ∀ env, eval (.Call (.Attribute (.Call (.Name "super" p0) [] [] p1) "__init__" p2) [.Constant (.str msg) j p3] [] p4) env = (do
      let ov ← attributeBase (.Call (.Name "super" p0) [] [] p1) "__init__" env (eval (.Call (.Name "super" p0) [] [] p1) env)
      standAt p2.atName
      let (f, first) ← holding [ov] (getMethod ov "__init__" (pl env))
      callWith p4 f first (backTo p4 (starEach [.Constant (.str msg) j p3] env)) [])) :
    FnOk P w K mg base CX k fI fd ["self", par] (spXi K c fld) := by
  refine ⟨fun vs H Q E h => by obtain ⟨a, v, rfl, _⟩ := h; rfl, fun A outer s H args us vs Q E hr e0 hb rv hsp => ?_⟩
  obtain ⟨a, v, rfl, ha, q⟩ := hsp
  obtain ⟨oc, od, osl, kV, doc, pm, an, cda, ct, cc, rfl, lk, hcd, ⟨cl, cld, csl, lc⟩, ccl, cdd, fvs, ccs, file, tf, lcd, hvs, hfile⟩ := D.fn
  cases rv with
  | @cons _ u0 _ ur ra rv' =>
    cases rv' with
    | @cons _ uv _ _ rr rn =>
      cases rn
      obtain rfl : u0 = Value.ref a := ra
      have KX : K.In s.heap := e0.mod.kin.keeps fun b o e => (e0.bs b o e).1
      have lim : s.heap.NoLimit := e0.mod.nolimit.keeps fun b o e => (e0.bs b o e).1
      obtain ⟨t1, ho⟩ := exo_at e0.hok ha
      obtain ⟨nmC, qC, NC, bsC, bmC, snC, subC, abC, colC, ddC, k0, k1, k2, k3, k5, hC, hbm⟩ := D.oex.cls
      obtain ⟨ar, har, har2⟩ := hp
      obtain ⟨mb, hmb, hbt⟩ := e0.mod.blt
      have haC : a ≠ He.ga K c := fun z => by
        have hb1 : base.get? (He.ga K c) = _ := e0.mod.kin _ _ hC
        have := (e0.bs _ _ hb1).2
        rw [← z, ha] at this
        cases this
      subst hbody
      have hlk1 : ([(("self" : Str), Value.ref a), (par, uv)] : List (Str × Value)).reverse.lookup ("self" : Str) = some (Value.ref a) := by
        have e : (("self" : Str) == par) = false := by rw [beq_eq_false_iff_ne]; exact fun z => hne z.symm
        simp [List.lookup, e]
      have hlk2 : ([(("self" : Str), Value.ref a), (par, uv)] : List (Str × Value)).reverse.lookup par = some uv := by simp [List.lookup]
      refine PySem.ks_codeAny_call_defAt (binds := [("self", .ref a), (par, uv)]) hr.depth (KX _ _ lk) rfl lim (PySem.W.codeRec_of KX hcd) rfl hb hcell (fun y hy => ?_) (fun h₁ hns keep => ?_) hco hgen hk
      · rcases List.mem_cons.mp hy with rfl | hy
        · exact hka
        · rw [List.mem_singleton.mp hy]; exact hkp
      have K1 : K.In h₁ := KX.keeps keep
      have g1 : h₁.Ns mainGlobals mg := e0.mod.glob.keeps fun b o e => keep b o (e0.bs b o e).1
      have b1 : h₁.Ns builtinsNs mb := hmb.keeps fun b o e => keep b o (e0.bs b o e).1
      have nL : s.heap.objs.size ≠ a := Nat.ne_of_gt (Heap.lt_size ho)
      refine PySem.ks_wpAt_execs_cons (PySem.ks_wpAt_Expr_any (hi := by unfold interactive; show (scope.kind == _ && _) = false; rw [hk]; rfl) (hs := hsw2 _) (PySem.ks_wpAt_MethodCall (he := hev _) (PySem.ks_wpAt_super_base hks hkc (by decide) rfl (K1 _ _ lk) rfl har rfl (K1 _ _ lcd) rfl hvs hfile D.top ?_)))
      rw [har2]
      refine PySem.W.ks_loadName_global hk hks (Calls.loadGlobal_builtin g1 hms b1 ((hbt "super" (by decide)).trans (by decide +kernel : bootBuiltins ("super" : Str) = some (.type "super"))) ⟨rfl, ?_⟩)
      refine wpAny_loadName_free hk hkc rfl ⟨_, K1 _ _ lc, rfl⟩ ?_
      refine wpAny_loadName_local hk hka hns hlk1 ?_
      obtain ⟨sh, sg, sd, stk, sos⟩ := s
      refine PySem.ks_wpAny_isType_cls (K1 _ _ hC) rfl ⟨rfl, ?_⟩
      refine PySem.ks_wpAny_call_super (K1 _ _ hC) rfl (keep _ _ ho) rfl (fun c z => nomatch z) (PySem.W.looks_mroIn K1 D.sub) fun h2 hso kp2 => ?_
      have K2 : K.In h2 := K1.keeps kp2
      have ho2 := kp2 _ _ (keep _ _ ho)
      have I2 : PySem.W.InstAt h2 a _ (He.ga K c) none := ⟨ho2, rfl, rfl, trivial⟩
      obtain ⟨cd, hcl, hal⟩ : ∃ cd, PySem.W.clsIn K (He.ga K c) = some cd ∧ PySem.W.alongIn K "__init__" ((cd.mro.dropWhile (· != .ref (He.ga K c))).drop 1) = some (some (.builtin "ValueError.__init__")) := by
        have hm := D.sup
        unfold PySem.W.ks_superIn at hm
        cases hc : PySem.W.clsIn K (He.ga K c) with
        | none => rw [hc] at hm; cases hm
        | some cd => rw [hc] at hm; exact ⟨cd, rfl, hm⟩
      refine PySem.W.kxs_getMethod PySem.W.kxs_ValueError hso (PySem.W.looks_opaque K2 D.st) (l₀ := cd.mro) (fun A Q E s k q => wpAny_bind ((PySem.W.looks_clsIn K2 hcl) A _ E s k (wpAny_pure q))) rfl K2 hal (I2.type.andThen (PySem.W.looks_subIn K2 D.ve)) haC (by decide) ?_
      have K3 : K.In (h2.push (PySem.W.kxs_mw "ValueError.__init__" a)) := K2.keeps fun b o e => Heap.get?_push_of_some _ e
      have hu : (h2.push (PySem.W.kxs_mw "ValueError.__init__" a)).get? h2.objs.size = some (PySem.W.kxs_mw "ValueError.__init__" a) := Heap.get?_push_at rfl rfl
      have ho3 := Heap.get?_push_of_some (PySem.W.kxs_mw "ValueError.__init__" a) ho2
      refine PySem.W.kxs_callWith (i := "ValueError.__init__") (x := a) rfl (Calls.evalArgs_plain ?_)
      show wpAny _ _ (spliced ((false, eval (.Constant (.str msg) j p3) _) :: backTo p4 (starEach [] _))) _ _ _
      refine Calls.spliced_cons (wpAny_Constant_str ?_)
      refine Calls.spliced_nil ⟨hu, ?_⟩
      refine wpAny_call (codeAny_of_tree ?_)
      show wpAny _ _ (callAny (.ref h2.objs.size) ⟨[.str msg _], []⟩) _ _ _
      simp only [callAny]
      refine wpAny_bind (wpAny_load hu ?_)
      simp only [PySem.W.kxs_mw, show (Value.type "method-wrapper" == Value.type "method" || Value.type "method-wrapper" == Value.type "builtin_function_or_method" || Value.type "method-wrapper" == Value.type "method-wrapper") = true by decide, if_true]
      refine PySem.W.KFB.if_so (by decide) ?_
      refine wpAny_bind (PySem.W.check_bound_init PySem.F.excBase_ValueError.toExcCallFacts (K3 _ _ hC) ho3 rfl ?_)
      refine wpAny_bind (wpAny_pure (wpAny_pure ?_))
      refine ⟨plainId_quiet PySem.F.excBase_ValueError.init.plain _, codeAny_builtin PySem.F.excBase_ValueError.initEntry ?_⟩
      refine PySem.W.exc_init_tree (cls := .ref (He.ga K c)) (t0 := t1) (dv := none) (c2 := .none) (c3 := .none) (b4 := .bool false) ho3 (by rw [sizeLine_eq]; show 1 ≤ 16777216; decide) fun h4 k4 ho4 _ => ?_
      have kall : ∀ b o, b ≠ a → h₁.get? b = some o → h4.get? b = some o := fun b o hb e => k4 b o hb (Heap.get?_push_of_some _ (kp2 b o e))
      have K4 : K.In h4 := fun b o e => kall b o (fun z => by
        have e1 := (e0.bs _ _ (e0.mod.kin _ _ e)).2
        rw [z, ha] at e1
        cases e1) (K1 _ _ e)
      have hns4 := hns.at (h' := h4) fun o e => kall _ o nL e
      have hcl2 : PySem.W.clsIn K (He.ga K c) = some { name := nmC, bases := bsC, mro := .ref (He.ga K c) :: bmC, ns := NC, qualname := qC, hasDict := true, slotNames := snC, subclasses := subC, abstract := abC, collection := colC, hasDel := false } := by unfold PySem.W.clsIn; rw [hC] <;> rfl
      show _root_.PySem.wpAt _ _ _ (execs [.Assign [.Attribute (.Name "self" p6) fld p7] (.Name par p8) p9] _) _ _ _
      refine PySem.ks_wpAt_execs_cons (wpAt_of_wpAny (plainObj_wpAny_Assign_Attribute (wpAny_Name (wpAny_loadName_local hk hkp hns4 hlk2 (wpAny_Name (wpAny_loadName_local hk hka hns4 hlk1 ?_) (by decide))) hpd) (hsw _)))
      refine PySem.W.set_plain K4 (od := none) ⟨ho4, rfl, rfl, trivial⟩ D.oex.sa ?_
      refine PySem.HandSPX.exc_osa K4 ho4 hcl2 (show PySem.HandSPX.refsVE (.ref (He.ga K c) :: bmC) = true from hbm) rfl D.no (fun h' tk' dx kk dn dne hx hn => ?_)
      have kfin : ∀ b o, b ≠ a → sh.get? b = some o → h'.get? b = some o := fun b o hb e => kk b o hb (kall b o hb (keep b o e))
      have dn0 : sh.objs.size ≤ dx := by
        obtain ⟨o, _, _, e, _⟩ := hns4
        exact Nat.le_trans (Nat.le_of_lt (Heap.lt_size e)) dn
      have hnd : H dx = none := e0.hok.fresh dn0
      have nd : ∀ {b : Addr} {o : Obj}, sh.get? b = some o → b ≠ dx := fun {b o} q => Nat.ne_of_lt (Nat.lt_of_lt_of_le (Heap.lt_size q) dn0)
      have na : ∀ {b : Addr}, H b = none → b ≠ a := fun {b} n z => by
        rw [z, ha] at n
        cases n
      show _root_.PySem.wpAt _ _ _ (execs [] _) _ _ _
      refine wpAt_of_wpAny (wpAny_execs_nil ?_)
      refine ⟨.non, upd (upd H dx (exd dx [(fld, v)])) a (exo a (He.ga K c) (some dx)), rfl, e0.bare, ⟨fun b o q n _ _ => kfin b o (na n) q, fun b o q n _ _ => ⟨o.slots, kfin b o (na n) q⟩, fun b o q n _ => by rw [upd_ne (na n), upd_ne (nd q)]; exact n, fun b o q _ => ?_, fun b xs q => by rw [upd_ne (at_ne ha q exo_tup), upd_ne (ne_of_none q hnd)]; exact q, fun b o v q => by rw [upd_ne (at_ne ha q exo_frz), upd_ne (ne_of_none q hnd)]; exact q, fun b ps q => ⟨#[], by rw [upd_ne (at_ne ha q exo_tbl), upd_ne (ne_of_none q hnd), q]; simp⟩⟩, fun b o q => ?_, rfl, q dx hnd dne⟩
      · by_cases hb : b = a
        · exact ⟨_, by rw [hb]; exact hx⟩
        · exact ⟨o, kfin b o hb q⟩
      · by_cases hb : b = a
        · subst hb
          rw [upd_same] at q
          cases q
          exact exo_ok hx
        · rw [upd_ne hb] at q
          by_cases hd : b = dx
          · subst hd
            rw [upd_same] at q
            cases q
            exact exd_ok hn (relO_put (fs := []) rr fun g => True.intro)
          · rw [upd_ne hd] at q
            exact (e0.hok b o q).stay (fun c v hc z => kfin c v (by
                rcases hc with hc | hc
                · rw [hc]
                  exact hb
                · exact at_ne ha hc exo_own) z)
              (fun c hc => by rw [upd_ne (at_ne ha hc exo_own), upd_ne (ne_of_none hc hnd)]; exact hc) (fun c xs hc => by rw [upd_ne (at_ne ha hc exo_tup), upd_ne (ne_of_none hc hnd)]; exact hc)
end
/-! ### raise C(e) -/
/-- a new exception's dict -/
structure NewX (H : Hp) (fs : List (Str × V)) (k : Addr → Hp → Prop) : Prop where
  go : ∀ d, H d = none → k d (upd H d (.xd fs))
def dRsI (K : Frag) (c fld : Str) (W : WX) (i : Nat) : TS := fun _ σ H => onSome (nth σ i) fun v => NewX H [(fld, v)] fun d H2 => W (.ref (He.ga K c)) (some d) σ H2
theorem xi_heap {H : Hp} {a dx C : Addr} {fld : Str} {v : V} (ha : H a = none) (hd : H dx = none) (hne : dx ≠ a) : upd (del (upd (upd (upd H a (exo a C none)) dx (exd dx [(fld, v)])) a (exo a C (some dx))) a) dx (.xd [(fld, v)]) = upd H dx (.xd [(fld, v)]) := by
  funext b
  by_cases h1 : b = dx
  · rw [h1, upd_same, upd_same]
  · rw [upd_ne h1, upd_ne h1]
    by_cases h2 : b = a
    · rw [h2, del_same, ha]
    · rw [del_ne h2, upd_ne h2, upd_ne h1, upd_ne h2]
theorem ps_rsI {X : Cx} {c fld nm qual par msg : Str} {params : Arguments} {body : List Stmt} {scope : Scope} {fI : Addr} {p0 p1 p2 p3 p4 p5 p6 p7 p8 p9 pp ppos ppos' : Pos} {j : Nat} {pl : Env → Sem Bool} {W : WX} {e : Expr} {ix : Nat} (tk : Takes X W)
    (D : ∃ fd, XiF X.prog X.K c fld nm qual params body scope fI fd) (hms : X.mg "super" = none) (gC : X.mg c = some (.ref (He.ga X.K c))) (hr : Room 1 X.A) (he : PE X e (dVar ix))
    (hbind : ∀ (kV doc pm : Value) (an : Option Addr) (cdv ct : Value) (cc : Addr) (us : List Value), us.length = 2 → bindArgs (PySem.W.ksFn nm qual params body scope .none kV doc pm an cdv ct cc) ⟨us, []⟩ = pure ([("self" : Str), par].zip us))
    (hbody : body = [.Expr (.Call (.Attribute (.Call (.Name "super" p0) [] [] p1) "__init__" p2) [.Constant (.str msg) j p3] [] p4) p5, .Assign [.Attribute (.Name "self" p6) fld p7] (.Name par p8) p9])
    (hp : ∃ ar, (params.posonlyargs ++ params.args).head? = some ar ∧ ar.arg = "self") (hk : scope.kind = .function) (hco : scope.isCoroutine = false) (hgen : scope.isGenerator = false) (hcell : ∀ x ∈ scope.names, x.2 ≠ .cell)
    (hks : scope.names.lookup ("super" : Str) = some .globalImplicit) (hkc : scope.names.lookup ("__class__" : Str) = some .free) (hka : scope.names.lookup ("self" : Str) = some .local) (hkp : scope.names.lookup par = some .local) (hne : par ≠ "self") (hpd : (par == ("__debug__" : Str)) = false)
    (hsw : ∀ env, swapsWith (.Name par p8) (some (.Attribute (.Name "self" p6) fld p7)) p9.line env = pure false) (hsw2 : ∀ env, swapsWith (.Call (.Attribute (.Call (.Name "super" p0) [] [] p1) "__init__" p2) [.Constant (.str msg) j p3] [] p4) none p5.line env = pure false)
    (hev : ∀ env, eval (.Call (.Attribute (.Call (.Name "super" p0) [] [] p1) "__init__" p2) [.Constant (.str msg) j p3] [] p4) env = (do
      let ov ← attributeBase (.Call (.Name "super" p0) [] [] p1) "__init__" env (eval (.Call (.Name "super" p0) [] [] p1) env)
      standAt p2.atName
      let (f, first) ← holding [ov] (getMethod ov "__init__" (pl env))
      callWith p4 f first (backTo p4 (starEach [.Constant (.str msg) j p3] env)) []))
    (hc : X.calm = true := by rfl) (hg : Gl X c := by rfl) (hdb : (c == ("__debug__" : Str)) = false := by decide) (hst : starEach [e] X.env = (false, eval e X.env) :: starEach [] X.env := by rfl) (hpl : (backTo ppos (starEach [] X.env)).any (·.1) = false := by rfl) :
    PS X (.Raise (some (.Call (.Name c pp) [e] [] ppos)) none ppos') (dRsI X.K c fld W ix) := by
  obtain ⟨fd, D⟩ := D
  have F1 : FnOk X.prog X.w X.K X.mg X.base (L2.CX X.prog X.w) 0 fI fd ["self", par] (spXi X.K c fld) := xi_ok D hms hbody hp hk hco hgen hcell hks hkc hka hkp hne hpd hsw hsw2 hev
  have hb : Binds X.K fd ["self", par] [] := by
    obtain ⟨oc, od, osl, kV, doc, pm, an, cda, ct, cc, rfl, _⟩ := D.fn
    exact Binds.all fun us hl => hbind _ _ _ _ _ _ _ us hl
  have pm := pmk_oex (X := X) (p := pp) (pos := ppos) D.oex D.ini D.tI F1 hr hb .nil (fun _ _ _ _ _ _ _ h => by
    obtain ⟨_, _, _, _, _, _, _, _, _, _, _, _, z⟩ := h
    exact z.elim) hg gC (pa_cons he pa_nil hst) hdb hst hpl
  refine PS.of (ps_raise hc tk pm) fun DD σ H q => ?_
  unfold dRsI at q
  show onSome (nth σ ix) _
  cases hx : nth σ ix with
  | none => rw [hx] at q; exact q.elim
  | some v =>
    rw [hx] at q
    have q : NewX H [(fld, v)] fun d H2 => W (.ref (He.ga X.K c)) (some d) σ H2 := q
    refine ⟨show 1 ≤ 1000 by decide, fun a ha => ⟨a, v, rfl, upd_same, fun dx hdx hne => ⟨rfl, dx, [(fld, v)], upd_same, by rw [upd_ne hne, upd_same], ?_, ?_⟩⟩⟩
    · rw [upd_ne hne] at hdx; exact hdx
    · rw [upd_ne hne] at hdx
      rw [xi_heap ha hdx hne]
      exact q.go dx hdx
/-! ### e.f, e the exception of the suite -/
/-! ### such a class in the head -/
theorem cellTo_ok {K : Frag} {cc C : Addr} (h : cellTo K cc C = true) : ∃ cl cld csl, K.lookup cc = some ⟨cl, cld, .cell (some (.ref C)), csl⟩ := by
  unfold cellTo at h
  split at h
  · rename_i cl cld D csl lc
    have e := of_decide_eq_true h
    subst e
    exact ⟨_, _, _, lc⟩
  · cases h
theorem codeFile_ok {P : Program} {K : Frag} {cda : Addr} (h : codeFile P K cda = true) : ∃ ccl cdd vs ccs file tf, K.lookup cda = some ⟨ccl, cdd, .fields vs, ccs⟩ ∧ vs[2]? = some (.str file tf) ∧ ((P.main.file : Str) == file) = true := by
  unfold codeFile at h
  split at h
  · rename_i ccl cdd vs ccs lcd
    split at h
    · rename_i file tf hvs
      exact ⟨ccl, cdd, vs, ccs, file, tf, lcd, hvs, h⟩
    · cases h
  · cases h
theorem cloB_ok {P : Program} {K : Frag} {C : Addr} {code : Value} {clo : List (Str × Addr)} (h : cloB P K C code clo = true) : ∃ cda nm cc, code = .ref cda ∧ clo = [(nm, cc)] ∧ cellTo K cc C = true ∧ codeFile P K cda = true := by
  unfold cloB at h
  split at h
  · obtain ⟨h1, h2⟩ := He.ba h
    exact ⟨_, _, _, rfl, rfl, h1, h2⟩
  · cases h
theorem xi_of {P : Program} {K : Frag} {c fld nm qual : Str} {params : Arguments} {body : List Stmt} {scope : Scope} (e : fnX K (He.fAd K (c, some "__init__")) = some (nm, qual, params, .stmts body, scope, mainGlobals, [(("__class__" : Str), (0 : Addr))], builtinsNs)) (h : xiB P c fld K = true) :
    ∃ fd, XiF P K c fld nm qual params body scope (He.fAd K (c, some "__init__")) fd := by
  obtain ⟨h1, h⟩ := He.ba h
  obtain ⟨h2, h⟩ := He.ba h
  obtain ⟨h3, h⟩ := He.ba h
  obtain ⟨h4, h⟩ := He.ba h
  obtain ⟨h5, h⟩ := He.ba h
  obtain ⟨h6, h⟩ := He.ba h
  obtain ⟨h7, h⟩ := He.ba h
  obtain ⟨h8, h⟩ := He.ba h
  obtain ⟨h9, h10⟩ := He.ba h
  unfold fnX at e
  unfold fnB at h1
  cases lk : K.lookup (He.fAd K (c, some "__init__")) with
  | none => rw [lk] at e; cases e
  | some o =>
    rw [lk] at e h1
    obtain ⟨oc, od, dat, osl⟩ := o
    cases dat <;> try cases e
    rename_i fd
    obtain ⟨k1, k0⟩ := He.ba h1
    obtain ⟨kd, k2⟩ := He.ba k0
    obtain ⟨n1, n2, n3, n4, n5, n6, n7, n8, n9, n10, n11, n12, n13, n14, n15⟩ := fd
    simp only [Option.some.injEq, Prod.mk.injEq] at e
    obtain ⟨e1, e2, e3, e4, e5, e6, e7, e8⟩ := e
    subst e1 e2 e3 e4 e5 e6 e8
    dsimp only at k1 k2 kd
    have hdn : n8 = Value.none := by
      rcases He.dflB_ok kd with ⟨_, z⟩ | ⟨z, _⟩
      · exact z
      · exact absurd rfl z
    subst hdn
    obtain ⟨cda, nmc, cc, ec, eclo, h3', h4'⟩ := cloB_ok k2
    subst ec eclo
    have enm : nmc = "__class__" := by simpa using e7
    subst enm
    exact ⟨_, ⟨⟨oc, od, osl, _, _, _, _, cda, _, cc, rfl, lk, k1, cellTo_ok h3', codeFile_ok h4'⟩, of_decide_eq_true h2, He.eqO_ok h3, of_decide_eq_true h4, of_decide_eq_true h5, oexB_ok h6, of_decide_eq_true h7, He.eqO_ok h8, of_decide_eq_true h9, by simpa using h10⟩⟩
end S
namespace S
open PySem PySem.Spec PyProof.Rows L2
/-! ### x not in o, o with its own __contains__ -/
section
variable {X : Cx} {k : Nat} {g : Addr} {sp : Sp} {E : XK} {c : Str}
end
/-! ### n.bit_length() -/
/-- the least width of a number -/
def widI (i : Int) : Nat := Builtin.Int.intBits (if i < 0 then -i - 1 else i) + 1
end S
namespace S
open PySem PySem.Spec PyProof.Rows L2
/-! ### range(a, b, -1) -/
def iR3 (vs : List V) (H : Hp) (R : It → Hp → Prop) : Prop := match vs with
  | [.int i, .int j, .int c] => Need (c = -1) (Need (-(2 ^ 62) ≤ i ∧ i < 2 ^ 62 ∧ -(2 ^ 62) ≤ j ∧ j < 2 ^ 62) (R (Itc i (-1) (i - j).toNat) H))
  | _ => False
def iRngD (ta : TA) : TI := fun σ H R => ta σ H fun vs H1 => iR3 vs H1 R
theorem pi_rngD {X : Cx} {tg a b c : Expr} {ta : TA} {p pos : Pos} (hg : Gl X "range") (hm : X.mg "range" = none) (ha : PA X [a, b, c] ta)
    (hs : starEach [a, b, c] X.env = (false, eval a X.env) :: starEach [b, c] X.env := by rfl) (hpl : (backTo pos (starEach [b, c] X.env)).any (·.1) = false := by rfl) :
    PI X tg (.Call (.Name "range" p) [a, b, c] [] pos) (iRngD ta) := by
  refine ⟨fun pins s σ H R I h => ?_⟩
  refine Call_ (ld_blt I hg hm boot_range (PyProof.Rows.callWith_type1 (thn (ha.run pos pins s σ H _ I h) fun us s1 ⟨vs, H1, I1, r1, q1⟩ => ?_) hs hpl))
  match vs, q1 with
  | [.int i, .int j, .int k], ⟨e, ⟨q1, q2, q3, q4⟩, q⟩ =>
    subst e
    obtain ⟨c0, c1, c2, c3⟩ := RgC.neg q1 q2 q3 q4
    cases r1 with
    | cons r rr =>
      cases rr with
      | cons r' rr =>
        cases rr with
        | cons r'' rr =>
          cases rr
          obtain ⟨t, rfl⟩ := r
          obtain ⟨t', rfl⟩ := r'
          obtain ⟨t'', rfl⟩ := r''
          refine call_range_3 c0 ?_ (.inl (PyProof.noPylong_small c1))
          refine wpAny_pyIter_range (IsRange.new ..) c2 ?_
          have I2 : Inv X pins σ H1 { s1 with heap := s1.heap.push { cls := .type "range", data := .fields #[.int i t, .int j t', .int (-1) t''] } } := I1.kept (t' := s1.toks) fun b o e => Heap.get?_push_of_some _ e
          refine pi_one (tk := s1.toks) I2 _ (turn_rangeC _ i (-1) (i - j).toNat) ?_ q
          have e1 : i + ((0 : Nat) : Int) * (-1) = i := by simp
          have e2 : (((i - j).toNat : Nat) : Int) - ((0 : Nat) : Int) = Builtin.Range.rangeSize i j (-1) := by rw [c3]; simp
          show IsRangeIter _ _ (i + ((0 : Nat) : Int) * (-1)) ((((i - j).toNat : Nat) : Int) - ((0 : Nat) : Int)) (-1)
          rw [e1, e2]
          exact Heap.get?_push_size _ rfl
theorem for_rngD {a b : Int} {g : TG} {tb : TS} {D : Ends} {σ : L2.St} {H : Hp} (Pv : Nat → L2.St → Hp → Prop) (h0 : Pv 0 σ H)
    (hs : ∀ (i : Nat) σ H, b < a - (i : Int) → Pv i σ H → g (.int (a - i)) σ H fun σ2 H2 => tb { D with nx := Pv (i + 1), ct := Pv (i + 1), bk := D.nx } σ2 H2) (hd : ∀ σ H, Pv (a - b).toNat σ H → D.nx σ H) :
    LoopR D g tb σ (Itc a (-1) (a - b).toNat) H := by
  refine L2.for_rangeC (lo := a) Pv h0 (fun i σ H hi q => ?_) hd
  have z := hs i σ H (by omega) q
  have e : a + (i : Int) * (-1) = a - i := by omega
  rw [e]; exact z
/-! ### the head, its looks one by one -/
end S
namespace S
open PySem PySem.Spec PyProof.Rows L2
/-! ### i op x, x an instance with its own reflected op -/
section
variable {prog : Program} {w : World} {A : Around} {E : Value → Shared → Prop} {s : Shared} {K : Frag} {x C L f g : Addr} {h₀ : Heap} {m : Str → Option Value} {ox : Obj} {od : Option Obj}
end
theorem sub_int {K : Frag} {a : Addr} : PySem.W.subIn K (.type "int") (.ref a) = some false := by
  show (PySem.fastBuiltinMro "int").map (·.contains (.ref a)) = _
  obtain ⟨l, hl⟩ := Option.isSome_iff_exists.mp (show (PySem.fastBuiltinMro "int").isSome = true by decide)
  rw [hl]
  unfold PySem.fastBuiltinMro at hl
  obtain ⟨r, _, rfl⟩ := Option.map_eq_some_iff.mp hl
  rw [Option.map_some]
  congr 1
  rw [Bool.eq_false_iff]
  intro z
  rw [List.contains_iff_mem, List.mem_map] at z
  obtain ⟨_, _, e⟩ := z
  cases e
section
variable {X : Cx} {k kR : Nat} {g gR : Addr} {sp spR : Sp} {E : XK} {c : Str} {ups : List Str} {tys : List String}
end
end S
namespace S
open PySem PySem.Spec PyProof.Rows L2
/-! ### abs of an instance with its own __abs__ -/
section
variable {X : Cx} {k : Nat} {g : Addr} {sp : Sp} {E : XK} {c : Str} {ups : List Str} {tys : List String}
end
/-! ### x op i, x an instance whose class has no reflected op -/
section
variable {X : Cx} {k : Nat} {g : Addr} {sp : Sp} {E : XK} {c : Str} {ups : List Str} {tys : List String}
end
/-! ### == of two tuples of instances with their own == -/
section
variable {prog : Program} {w : World} {A : Around} {R : Result → Shared → Prop}
end
section
variable {X : Cx} {k : Nat} {g : Addr} {sp : Sp} {E : XK} {c : Str}
end
end S
namespace S
open PySem PySem.Spec PyProof.Rows L2
/-! ### x op y: two instances of c by their own def; two others by r -/
section
variable {X : Cx} {k kR : Nat} {g gR : Addr} {sp spR : Sp} {E : XK} {c : Str} {ups : List Str} {tys : List String}
end
end S
namespace S
open PySem PySem.Spec PyProof.Rows L2
/-! ### the head's look, over what the named ones reach -/
end S
namespace S
open PySem PySem.Spec PyProof.Rows L2
/-! ### classes whose instances have a dict -/
structure DF (K : Frag) (x : Str) (ups : List Str) (fs : List Str) : Prop where
  mf : MF K x ups ["object"]
  cl : Cls K (He.ga K x)
  ha : PySem.W.findIn K (.ref (He.ga K x)) "__class__" = some (some (.builtin "object.__class__"))
  hn : PySem.W.specialIn K (.builtin "object.__class__") "__get__" = some (some (.builtin "getset_descriptor.__get__"))
  ht : PySem.W.takesIn K (.builtin "object.__class__") = some true
  hm : PySem.W.mroIn K (He.ga K x) (.type "object") = some true
  na : ∀ f ∈ fs, NoAttr K (He.ga K x) f
theorem dfB_ok {K : Frag} {x : Str} {ups fs : List Str} (h : dfB x ups fs K = true) : DF K x ups fs := by
  obtain ⟨h1, h⟩ := He.ba h
  obtain ⟨h2, h⟩ := He.ba h
  obtain ⟨h3, h⟩ := He.ba h
  obtain ⟨h4, h⟩ := He.ba h
  obtain ⟨h5, h⟩ := He.ba h
  obtain ⟨h6, h7⟩ := He.ba h
  exact ⟨mfB_ok h1, He.cls_ok h2, He.eqO_ok h3, He.eqO_ok h4, of_decide_eq_true h5, of_decide_eq_true h6, fun f hf => He.eqO_ok (List.all_eq_true.mp h7 f hf)⟩
section
variable {K : Frag} {H : Hp} {a dx : Addr} {x f : Str} {ups fs : List Str} {as : List (Str × V)}
theorem Atr.df {k : V → Prop} {v : V} (c : DF K x ups fs) (h : H a = some (.ins (He.ga K x) dx as)) (l : as.lookup f = some v) (q : k v) (hf : f ∈ fs := by decide) : Atr K H a f k := ⟨.inr ⟨_, dx, as, v, h, c.cl, c.na f hf, l, q⟩⟩
theorem Sto.df {k : Hp → Prop} {y : V} (c : DF K x ups fs) (h : H a = some (.ins (He.ga K x) dx as)) (l : as.length < 1000) (q : k (upd H a (.ins (He.ga K x) dx (putF f y as)))) (hf : f ∈ fs := by decide) : Sto K H a f y k := ⟨.inr ⟨_, dx, as, h, c.cl, c.na f hf, l, q⟩⟩
theorem Isi.df {y : Str} {ups' : List Str} {tys' : List String} {k : Bool → Prop} (c : DF K x ups fs) (h : H a = some (.ins (He.ga K x) dx as)) (n : MF K y ups' tys') (q : k (decide (y ∈ x :: ups))) : Isi K H (.ref a) (.ref (He.ga K y)) k :=
  Isi.of (.base (.ins h c.cl c.ha c.hn c.ht c.hm)) (mf_kit c.mf n) q
end
/-! ### methods, properties of such instances -/
structure IsD (K : Frag) (H : Hp) (c m : Str) (a : Addr) (q : Prop) : Prop where
  ex : ∃ dx fs, H a = some (.ins (He.ga K c) dx fs) ∧ fs.lookup m = none
  q : q
theorem IsD.of {K : Frag} {H : Hp} {c m : Str} {a dx : Addr} {fs : List (Str × V)} {q : Prop} (h : H a = some (.ins (He.ga K c) dx fs)) (h2 : q) (l : fs.lookup m = none := by rfl) : IsD K H c m a q := ⟨⟨dx, fs, h, l⟩, h2⟩
def dMethD (K : Frag) (c m : Str) (sp : Sp) (E : L2.St → XK) (ta : TE) (t : TA) : TE := fun σ H Q => ta σ H fun x H1 => match x with
  | .ref a => IsD K H1 c m a (t σ H1 fun ws H2 => sp (.ref a :: ws) H2 Q (E σ))
  | _ => False
section
variable {X : Cx} {k : Nat} {g : Addr} {sp : Sp} {E : L2.St → XK} {x c m : Str} {p pos apos : Pos} {e o : Expr} {es : List Expr} {t : TA} {ta : TE}
theorem pe_methD {pl : Sem Bool} (hc : Cls X.K (He.ga X.K c)) (hm : Meth X.K (He.ga X.K c) m g) (F : FnR X.prog X.w X.K X.mg X.base (L2.CX X.prog X.w) k g sp) (hr : Room k X.A) (hx : ∀ σ, PassesAt (L2.CX X.prog X.w) X σ (E σ)) (he : PE X o ta) (ha : PA X (e :: es) t)
    (hst : starEach (e :: es) X.env = (false, eval e X.env) :: starEach es X.env := by rfl) (hpl : (backTo pos (starEach es X.env)).any (·.1) = false := by rfl)
    (ht : eval (.Call (.Attribute o m apos) (e :: es) [] pos) X.env = (do
      let ov ← eval o X.env
      standAt apos.atName
      let (f, first) ← holding [ov] (getMethod ov m pl)
      callWith pos f first (backTo pos (starEach (e :: es) X.env)) (backToKw pos (keywordEach [] X.env))) := by rfl) :
    PE X (.Call (.Attribute o m apos) (e :: es) [] pos) (dMethD X.K c m sp E ta t) := by
  refine ⟨fun pins s σ H Q I h => ?_⟩
  refine PySem.W.methodCall_KW (pl := pl) (thn (he.run pins s σ H _ I h) fun u s1 ⟨x, H1, I1, rx, q⟩ => ?_) ht
  cases x <;> try exact q.elim
  cases rx
  obtain ⟨⟨dx, fs, ea, l⟩, q⟩ := q
  refine getmeth_ok I1 ea hc hm l ?_
  refine PySem.W.callWith_K (first := [.ref _]) (h₀ := X.base) I.ok.mod.kin hm.kp (thn (ha.run pos pins s1 σ H1 _ I1 q) fun us s2 ⟨ws, H2, I2, r, q2⟩ => ⟨I2.kIn, ?_⟩) hst hpl
  exact run_R (us := .ref _ :: us) (vs := .ref _ :: ws) F hr (hx σ) I2 (.cons rfl r) q2
theorem pe_methD0 {pl : Sem Bool} (hc : Cls X.K (He.ga X.K c)) (hm : Meth X.K (He.ga X.K c) m g) (F : FnR X.prog X.w X.K X.mg X.base (L2.CX X.prog X.w) k g sp) (hr : Room k X.A) (hx : ∀ σ, PassesAt (L2.CX X.prog X.w) X σ (E σ)) (he : PE X o ta)
    (ht : eval (.Call (.Attribute o m apos) [] [] pos) X.env = (do
      let ov ← eval o X.env
      standAt apos.atName
      let (f, first) ← holding [ov] (getMethod ov m pl)
      callWith pos f first (backTo pos (starEach [] X.env)) (backToKw pos (keywordEach [] X.env))) := by rfl) :
    PE X (.Call (.Attribute o m apos) [] [] pos) (dMethD X.K c m sp E ta tNil) := by
  refine ⟨fun pins s σ H Q I h => ?_⟩
  refine PySem.W.methodCall_KW (pl := pl) (thn (he.run pins s σ H _ I h) fun u s1 ⟨x, H1, I1, rx, q⟩ => ?_) ht
  cases x <;> try exact q.elim
  cases rx
  obtain ⟨⟨dx, fs, ea, l⟩, q⟩ := q
  refine getmeth_ok I1 ea hc hm l ?_
  exact PySem.W.callWith_K0 (first := [.ref _]) I1.kIn hm.kp (run_R (us := [.ref _]) (vs := [.ref _]) F hr (hx σ) I1 (.cons rfl .nil) q)
end
/-! ### calls with keywords -/
structure FK (P : Program) (w : World) (K : Frag) (mg : Str → Option Value) (base : Heap) (k : Nat) (f : Addr) (n : Nat) (ks : List Str) (sp : Sp) (gV : List V → List V → List V) : Prop where
  ex : ∃ (fd : FuncData) (ps : List Str) (g : List Value → List Value → List Value), FnOk P w K mg base (L2.CX P w) k f fd ps sp ∧ KBn K fd ps n ks g gV
theorem mk_fnK {P : Program} {w : World} {K : Frag} {mg : Str → Option Value} {base : Heap} {x qual : Str} {params : Arguments} {body : List Stmt} {scope : Scope} {f : Addr} {fd : FuncData} {N ps ks : List Str} {k n : Nat} {sp : Sp} {dvs : List V} {kws : List (Str × V)} {gV : List V → List V → List V} (F : FunD K x qual params body scope dvs kws f fd) (S : FnScope N ps scope)
    (len : ∀ vs H Q E, sp vs H Q E → vs.length = ps.length) (hb : ∃ g, KBn K fd ps n ks g gV) {t : XK → TS}
    (hbody : ∀ (cdv : Value) (A : Around) (outer : List Env) (s : Shared) (H : Hp) (E : XK), Room k (A.deeper (envOfC qual scope s.heap.objs.size f cdv)) →
      PSs (cxD P w K mg base N qual scope f cdv A outer s H E) body (t E))
    (pure : ∀ vs H Q E, sp vs H Q E → t E { nx := fun _ H' => Q .non H', rt := Q } (start N vs) H) : FK P w K mg base (k + 1) f n ks sp gV := by
  obtain ⟨g, hb⟩ := hb
  exact ⟨fd, ps, g, FunD.ok (P := P) (w := w) (mg := mg) (base := base) (CX := L2.CX P w) (sp := sp) F S len fun cdv A outer s H vs Q E hr h => ⟨t E, hbody cdv A outer s H E hr, pure vs H Q E h⟩, hb⟩
def dCallK (n m : Nat) (sp : Sp) (gV : List V → List V → List V) (E : L2.St → XK) (t tk : TA) : TE := fun σ H Q => t σ H fun vs H1 => tk σ H1 fun zs H2 => vs.length = n ∧ zs.length = m ∧ sp (gV vs zs) H2 Q (E σ)
section
variable {X : Cx} {k n : Nat} {f g : Addr} {ks : List Str} {sp : Sp} {E : L2.St → XK} {x c m : Str} {p pos apos : Pos} {e o : Expr} {es : List Expr} {kws : List Keyword} {t tk : TA} {ta : TE} {gV : List V → List V → List V}
theorem run_FK {pins : List (Addr × Obj)} {σ : L2.St} {H : Hp} {s : Shared} {Q : VK} {us ws : List Value} {vs zs : List V} (F : FK X.prog X.w X.K X.mg X.base k f n ks sp gV) (hr : Room k X.A) (hx : PassesAt (L2.CX X.prog X.w) X σ (E σ))
    (I : Inv X pins σ H s) (r : Vals vs us) (rz : Vals zs ws) (l1 : vs.length = n) (l2 : zs.length = ks.length) (h : sp (gV vs zs) H Q (E σ)) : wpAny (model X.prog X.w) X.A (call (.ref f) us (ks.zip ws)) (EP X pins σ Q) X.xe s := by
  obtain ⟨fd, ps, gg, F, hb⟩ := F.ex
  have r2 := hb.rel r rz
  refine wpAny_call (codeAny_mono (F.run X.A X.stack s H ⟨us, ks.zip ws⟩ (gg us ws) (gV vs zs) Q (E σ) hr I.env0 (hb.to s us ws I.kIn (r.length.symm.trans l1) (rz.length.symm.trans l2)) r2 h) fun r s' hq => ?_)
  cases r with
  | error e => exact hx pins H s e s' I hq
  | ok fl =>
    cases fl with
    | ret u => exact I.after hq
    | next => exact False.elim hq
    | brk => exact False.elim hq
    | cont => exact False.elim hq
/-- f(e, .., k = v, ..) -/
theorem pe_callK (F : FK X.prog X.w X.K X.mg X.base k f n ks sp gV) (hr : Room k X.A) (hm : X.mg x = some (.ref f)) (hk : PySem.W.keepIn X.K (.ref f) = true) (hx : ∀ σ, PassesAt (L2.CX X.prog X.w) X σ (E σ))
    (ha : PA X (e :: es) t) (hkw : PK X kws tk) (hg : Gl X x := by rfl) (hall : (backToKw pos (keywordEach kws X.env)).all (·.1.isSome) = true := by rfl) (hks : (backToKw pos (keywordEach kws X.env)).filterMap (·.1) = ks := by rfl)
    (hdb : (x == ("__debug__" : Str)) = false := by decide) (he : starEach (e :: es) X.env = (false, eval e X.env) :: starEach es X.env := by rfl)
    (hpl : ((backTo pos (starEach (e :: es) X.env)).any (·.1) || (backToKw pos (keywordEach kws X.env)).any (·.1.isNone)) = false := by rfl) :
    PE X (.Call (.Name x p) (e :: es) kws pos) (dCallK n ks.length sp gV E t tk) := by
  refine ⟨fun pins s σ H Q I h => ?_⟩
  refine wpAny_Call_Name_kw (ld_glob I hg hm ?_ hdb)
  refine PySem.W.callWith_KW (h₀ := X.base) I.ok.mod.kin hk hall (thn (ha.run pos pins s σ H _ I h) fun us s1 ⟨vs, H1, I1, r, q⟩ => ?_) hpl he
  refine thn (hkw.run pos pins s1 σ H1 _ I1 q) fun ws s2 ⟨zs, H2, I2, rz, l1, l2, q2⟩ => ⟨I2.kIn, ?_⟩
  rw [hks]
  exact run_FK F hr (hx σ) I2 r rz l1 l2 q2
end
end S
namespace S
open PySem PySem.Spec PyProof.Rows L2
/-! ### sum(a list of numbers) -/
end S
namespace S
open PySem PySem.Spec PyProof.Rows L2
/-! ### x == y of an instance ahead with its own def and anything behind -/
section
variable {X : Cx} {k : Nat} {g : Addr} {sp : Sp} {E : XK} {c : Str}
end
end S
namespace S
open PySem PySem.Spec PyProof.Rows L2
/-! ### == of tuples of instances: what one address means is known in the run -/
section
variable {X : Cx} {k : Nat} {g : Addr} {sp : Sp} {E : XK} {c : Str}
end
end S
namespace S
open PySem PySem.Spec PyProof.Rows L2 GenW
section
variable {prog : Program} {w : World} {A : Around} {R : GenEnd} {Y : Protocol} {n : Nat} {s₀ : Shared} {fs : List Frame} {s : Shared} {env : Env}
theorem seg_forLoop {target : Expr} {it : Value} {body : List Stmt}
    (h : wpAny (model prog w) (A.over (.forLoop target it body [] env) fs) (pyNext it) (fun r s' => match r with
      | none => Seg (model prog w) A R Y n s₀ (.block [] env) ((model prog w).den (.block [] env)) fs s'
      | some v => wpAny (model prog w) (A.over (.forLoop target it body [] env) fs) (letOwnedTupleGo target it v) (fun _ s1 => wpAny (model prog w) (A.over (.forLoop target it body [] env) fs) (assign target env v) (fun _ s2 =>
          Seg (model prog w) A R Y n s₀ (.forLoop target it body [] env) ((execs body env).wrap (fun f => match f with
            | .next | .cont => .pure (.again (.forLoop target it body [] env))
            | .brk => .pure (.done .next)
            | .ret v => .pure (.done (.ret v))) (fun e => (do noteFrame e env; theTreesLotGoes e : Sem Unit).wrap (fun _ => .raise e) .raise id id) id id) fs s2)
        (fun x s' => Seg (model prog w) A R Y n s₀ (.forLoop target it body [] env) ((do noteFrame x env; theTreesLotGoes x : Sem Unit).wrap (fun _ => .raise x) .raise id id) fs s') s1)
        (fun x s' => Seg (model prog w) A R Y n s₀ (.forLoop target it body [] env) ((do noteFrame x env; theTreesLotGoes x : Sem Unit).wrap (fun _ => .raise x) .raise id id) fs s') s')
      (fun x s' => Seg (model prog w) A R Y n s₀ (.forLoop target it body [] env) ((do noteFrame x env; theTreesLotGoes x : Sem Unit).wrap (fun _ => .raise x) .raise id id) fs s') s) :
    Seg (model prog w) A R Y n s₀ (.forLoop target it body [] env) ((model prog w).den (.forLoop target it body [] env)) fs s := by
  show Seg _ A R Y n s₀ _ ((forTurn target it body [] env).onRaise (fun x => do noteFrame x env; theTreesLotGoes x)) fs s
  have hx' : ∀ (x : Value) (s' : Shared), Seg (model prog w) A R Y n s₀ (.forLoop target it body [] env) ((do noteFrame x env; theTreesLotGoes x : Sem Unit).wrap (fun _ => .raise x) .raise id id) fs s' → Seg (model prog w) A R Y n s₀ (.forLoop target it body [] env) ((do noteFrame x env; theTreesLotGoes x : Sem Unit).bind fun _ => .raise x) fs s' := fun x s' hx => by
    rw [Sem.bind_eq_wrap]; exact hx
  unfold forTurn
  rw [Sem.onRaise_eq_wrap]
  refine seg_bind_wrap (wpAny_standAt ?_)
  refine seg_bind_wrap (wpAny_onRaise (wpAny_mono h (fun r s' hr => ?_) fun x s' hx => wpAny_standAt (hx' x s' hx)))
  cases r with
  | none => exact seg_again rfl hr
  | some v =>
    refine seg_bind_wrap (wpAny_mono hr (fun _ s1 h1 => ?_) fun x s' hx => hx' x s' hx)
    refine seg_bind_wrap (wpAny_mono h1 (fun _ s2 h2 => ?_) fun x s' hx => hx' x s' hx)
    rw [Sem.bind_eq_wrap', Sem.wrap_wrap]
    rw [Sem.wrap_congr (execs body env) _ _ (K' := fun f => match f with
            | .next | .cont => .pure (.again (.forLoop target it body [] env))
            | .brk => .pure (.done .next)
            | .ret v => .pure (.done (.ret v))) (H' := (fun e => (do noteFrame e env; theTreesLotGoes e : Sem Unit).wrap (fun _ => .raise e) .raise id id))
        (fun f => by cases f <;> rfl)
        (fun e => by first | exact Sem.bind_eq_wrap _ _ | (show (do noteFrame e env; theTreesLotGoes e : Sem Unit).bind (fun _ => .raise e) = _; rw [Sem.bind_eq_wrap]))]
    exact h2
theorem seg_block0 (h : Seg (model prog w) A R Y n s₀ (.block [] env) (.pure (.done .next)) fs s) : Seg (model prog w) A R Y n s₀ (.block [] env) ((model prog w).den (.block [] env)) fs s := h
end
section
variable {X : Cx}
end
end S
namespace S
open PySem PySem.Spec PyProof.Rows L2 GenW
/-- named rests of a generator's body -/
def gstop (t : TGn) : TGn := fun D ys σ H => Stop (fun _ σ H => t D ys σ H) { nx := fun _ _ => True, rt := fun _ _ => True } σ H
def tGIf (c : TT) (t u : TGn) : TGn := fun D ys σ H => c σ H fun b H1 => bIf b (t D ys σ H1) (u D ys σ H1)
section
variable {P : Program} {w : World} {K : Frag} {mg : Str → Option Value} {base : Heap} {x qual : Str} {params : Arguments} {body : List Stmt} {scope : Scope} {dvs : List V} {kws : List (Str × V)} {f : Addr} {fd : FuncData}
end
/-! ### generators as values -/
section
variable {X : Cx} {k n : Nat} {f g : Addr} {sp : SpG} {x c m : Str} {p pos pos' apos : Pos} {e o : Expr} {es : List Expr} {t tk : TA} {ta : TE} {gV : List V → List V → List V} {ks : List Str} {kws : List Keyword}
end
end S
namespace S
open PySem PySem.Spec PyProof.Rows L2
def GLoopR (D : GEnds) (ys : List V) (g : TG) (tb : TGn) (σ : L2.St) : It → Hp → Prop := fun J H1 => ∃ W : Nat → Nat → List V → L2.St → Hp → Prop, (∃ m, W 0 m ys σ H1) ∧ ∀ i m ys σ H, W i m ys σ H →
  (J.stop i H ∧ D.nx ys σ H) ∨ (J.go i H ∧ ∃ N : List V → L2.St → Hp → Prop, (∀ ys' σ' H', N ys' σ' H' → ∃ m', m' < m ∧ W (i + 1) m' ys' σ' H') ∧ ∀ x H', J.yld i H x H' → g x σ H' fun σ2 H2 => tb { D with nx := N, ct := N, bk := D.nx } ys σ2 H2)
def dGFor (wi : TI) (g : TG) (tb : TGn) : TGn := fun D ys σ H => wi σ H (GLoopR D ys g tb σ)
section
variable {K : Frag} {a b : Addr} {xs zs : List V} {g : TG} {tb : TGn} {D : GEnds} {ys : List V} {σ : L2.St} {H : Hp}
theorem gfor_list (Pv : Nat → List V → L2.St → Hp → Prop) (h0 : Pv 0 ys σ H) (hl : ∀ i ys σ H, i ≤ xs.length → Pv i ys σ H → SqL K H a xs)
    (hs : ∀ i x ys σ H, xs[i]? = some x → Pv i ys σ H → g x σ H fun σ2 H2 => tb { D with nx := Pv (i + 1), ct := Pv (i + 1), bk := D.nx } ys σ2 H2) (hd : ∀ ys σ H, Pv xs.length ys σ H → D.nx ys σ H) : GLoopR D ys g tb σ (Itl K a) H := by
  refine ⟨fun i m ys σ H => m = xs.length - i ∧ i ≤ xs.length ∧ Pv i ys σ H, ⟨xs.length, by simp, Nat.zero_le _, h0⟩, ?_⟩
  rintro i m ys σ H ⟨rfl, hi, p⟩
  have q := hl i ys σ H hi p
  by_cases hlt : i < xs.length
  · refine .inr ⟨⟨xs, xs[i], q, by simp [hlt]⟩, Pv (i + 1), fun ys' σ' H' p' => ⟨xs.length - (i + 1), by omega, rfl, hlt, p'⟩, fun x H' y => ?_⟩
    obtain ⟨e, y⟩ := y
    subst e
    exact hs i x ys σ _ (y xs q) p
  · have e : i = xs.length := by omega
    subst e
    exact .inl ⟨⟨xs, q, Nat.le_refl _⟩, hd ys σ H p⟩
theorem gfor_tup (Pv : Nat → List V → L2.St → Hp → Prop) (h0 : Pv 0 ys σ H) (hl : ∀ i ys σ H, i ≤ xs.length → Pv i ys σ H → SqT K H a xs)
    (hs : ∀ i x ys σ H, xs[i]? = some x → Pv i ys σ H → g x σ H fun σ2 H2 => tb { D with nx := Pv (i + 1), ct := Pv (i + 1), bk := D.nx } ys σ2 H2) (hd : ∀ ys σ H, Pv xs.length ys σ H → D.nx ys σ H) : GLoopR D ys g tb σ (Itt K a) H := by
  refine ⟨fun i m ys σ H => m = xs.length - i ∧ i ≤ xs.length ∧ Pv i ys σ H, ⟨xs.length, by simp, Nat.zero_le _, h0⟩, ?_⟩
  rintro i m ys σ H ⟨rfl, hi, p⟩
  have q := hl i ys σ H hi p
  by_cases hlt : i < xs.length
  · refine .inr ⟨⟨xs, xs[i], q, by simp [hlt]⟩, Pv (i + 1), fun ys' σ' H' p' => ⟨xs.length - (i + 1), by omega, rfl, hlt, p'⟩, fun x H' y => ?_⟩
    obtain ⟨e, y⟩ := y
    subst e
    exact hs i x ys σ _ (y xs q) p
  · have e : i = xs.length := by omega
    subst e
    exact .inl ⟨⟨xs, q, Nat.le_refl _⟩, hd ys σ H p⟩
theorem gfor_seq (Pv : Nat → List V → L2.St → Hp → Prop) (hx : SqA K H a xs) (h0 : Pv 0 ys σ H) (hl : ∀ i ys σ H', i ≤ xs.length → Pv i ys σ H' → Stay K a H H')
    (hs : ∀ i x ys σ H, xs[i]? = some x → Pv i ys σ H → g x σ H fun σ2 H2 => tb { D with nx := Pv (i + 1), ct := Pv (i + 1), bk := D.nx } ys σ2 H2) (hd : ∀ ys σ H, Pv xs.length ys σ H → D.nx ys σ H) : Walk K H a (GLoopR D ys g tb σ) := by
  rcases hx with hx | hx
  · exact ⟨.inl ⟨⟨xs, hx⟩, gfor_list Pv h0 (fun i ys σ H' hi q => (hl i ys σ H' hi q xs).1 hx) hs hd⟩⟩
  · exact ⟨.inr ⟨⟨xs, hx⟩, gfor_tup Pv h0 (fun i ys σ H' hi q => (hl i ys σ H' hi q xs).2 hx) hs hd⟩⟩
end
/-! ### a < b < c < d as a test -/
def dChain3T (r r' r'' : R2) (ta tb tc td : TE) : TT := fun σ H Q => ta σ H fun x H1 => tb σ H1 fun y H2 => r x y H2 (isB fun k H3 => bIf k (tc σ H3 fun z H4 => r' y z H4 (isB fun k2 H5 => bIf k2 (td σ H5 fun w' H6 => r'' z w' H6 (isB Q)) (Q false H5))) (Q false H3))
theorem pt_chain3 {X : Cx} {op op' op'' : CmpOp} {a b c d : Expr} {r r' r'' : R2} {ta tb tc td : TE} {pos : Pos} (ho : OpR X (compareOp op) r) (ho' : OpR X (compareOp op') r') (ho'' : OpR X (compareOp op'') r'') (ha : PE X a ta) (hb : PE X b tb) (hc : PE X c tc) (hd : PE X d td)
    (hm : lastMarks [op, op', op''] [b, c, d] = false := by with_unfolding_all rfl) : PT X (.Compare a [op, op', op''] [b, c, d] pos) (dChain3T r r' r'' ta tb tc td) := by
  refine ⟨fun pins s σ H Q I h => ?_⟩
  refine isTrue_chain (thn (ha.run pins s σ H _ I h) fun v s1 ⟨x, H1, I1, r1, q1⟩ => test_link (thn (hb.run pins s1 σ H1 _ I1 q1) fun u s2 ⟨y, H2, I2, r2, q2⟩ =>
    thn (ho pins s2 σ H2 x y v u _ I2 r1 r2 q2) fun d s3 ⟨z, H3, I3, r3, q3⟩ => ?_)) hm
  obtain ⟨k, e, q3⟩ := isB_ex q3
  subst e
  cases r3
  refine wpAny_truthy_bool ?_
  cases k with
  | false => exact ite_ff ⟨H3, I3, q3⟩
  | true =>
    refine ite_tt (test_link (thn (hc.run pins s3 σ H3 _ I3 q3) fun w' s4 ⟨z', H4, I4, r4, q4⟩ => thn (ho' pins s4 σ H4 y z' u w' _ I4 r2 r4 q4) fun d' s5 ⟨z2, H5, I5, r5, q5⟩ => ?_))
    obtain ⟨k2, e2, q5⟩ := isB_ex q5
    subst e2
    cases r5
    refine wpAny_truthy_bool ?_
    cases k2 with
    | false => exact ite_ff ⟨H5, I5, q5⟩
    | true =>
      refine ite_tt (test_last (thn (hd.run pins s5 σ H5 _ I5 q5) fun w2 s6 ⟨z6, H6, I6, r6, q6⟩ => thn (ho'' pins s6 σ H6 z' z6 w' w2 _ I6 r4 r6 q6) fun d2 s7 ⟨z7, H7, I7, r7, q7⟩ => ?_))
      obtain ⟨k3, e3, q7⟩ := isB_ex q7
      subst e3
      cases r7
      exact wpAny_truthy_bool ⟨H7, I7, q7⟩
end S
namespace S
open PySem PySem.Spec PyProof.Rows L2
/-! ### set(a list of numbers) -/
section
variable {P : Program} {w : World} {A : Around} {E : Value → Shared → Prop} {s : Shared}
end
section
variable {X : Cx}
end
end S
namespace S
open PySem PySem.Spec PyProof.Rows L2
def dTestO (K : Frag) (c : Str) (sp : Sp) (E : XK) (ta : TE) : TT := fun σ H Q => ta σ H fun x H1 => match x with
  | .ref p => IsO K H1 c p (sp [.ref p] H1 (isB Q) E)
  | x => dTru K x H1 fun b => Q b H1
theorem pt_ofO {X : Cx} {a : Expr} {ta : TE} {c : Str} {g : Addr} {k : Nat} {sp : Sp} {E : XK} (hm : Meth X.K (He.ga X.K c) "__bool__" g) (F : FnR X.prog X.w X.K X.mg X.base (L2.CX X.prog X.w) k g sp) (hr : Room k X.A) (hx : ∀ σ, PassesAt (L2.CX X.prog X.w) X σ E)
    (ha : PE X a ta) (he : ∀ whole, isTrue a X.env whole = (do let v ← whole; standAt a.pos; holding [v] (truthy v)) := by intro _; rfl) : PT X a (dTestO X.K c sp E ta) := by
  refine ⟨fun pins s σ H Q I h => ?_⟩
  refine isTrue_plain (thn (ha.run pins s σ H _ I h) fun v s1 ⟨x, H1, I1, r1, q1⟩ => ?_) (he _)
  cases x with
  | bl b =>
    exact tru_ok pins s1 σ H1 (.bl b) v Q I1 r1 ⟨b, rfl, q1⟩
  | non =>
    exact tru_ok pins s1 σ H1 .non v Q I1 r1 ⟨false, rfl, q1⟩
  | int i =>
    refine tru_ok pins s1 σ H1 (.int i) v Q I1 r1 ⟨_, rfl, ?_⟩
    have e : (i != 0) = decide (i ≠ 0) := by by_cases h : i = 0 <;> simp [h]
    rw [e]; exact q1
  | str z =>
    refine tru_ok pins s1 σ H1 (.str z) v Q I1 r1 ⟨_, ⟨q1.c, rfl⟩, ?_⟩
    have e : ((z.length : Int) != 0) = decide (z.length ≠ 0) := by by_cases h : z.length = 0 <;> simp [h]
    rw [e]; exact q1.q
  | ref p =>
    obtain ⟨⟨dx, vs, hsl⟩, q⟩ := q1
    cases r1
    obtain ⟨sl, od, _, J, _⟩ := SlX.slt_inst I1 hsl
    obtain ⟨m, hF⟩ := I1.fr
    refine PySem.W.truthy_K hF I1.ok.mod.kin J hm.at_ hm.fn (wpAny_mono (run_op (us := [.ref p]) (vs := [.ref p]) F hr I1.env0 hx I1 (.cons rfl .nil) q) (fun w s' z => ?_) fun _ _ x => x)
    obtain ⟨z', H', I', rz, qz⟩ := z
    obtain ⟨b, e, qz⟩ := isB_ex qz
    subst e
    cases rz
    exact ⟨H', I', qz⟩
  | _ => exact q1.elim
end S
namespace S
open PySem PySem.Spec PyProof.Rows L2
section
variable {X : Cx} {k n : Nat} {f : Addr} {sp : SpG} {x : Str} {p pos : Pos} {e : Expr} {es : List Expr} {t tk : TA} {gV : List V → List V → List V} {ks : List Str} {kws : List Keyword}
end
end S
namespace S
open PySem PySem.Spec PyProof.Rows L2 GenW
/-! ### a heap's beginning as the ground of a run -/
def cut0 (h : Heap) (n : Nat) : Heap := { h with objs := h.objs.extract 0 n }
theorem cut0_ix {h : Heap} {n b : Nat} : (cut0 h n).objs[b]? = if b < n then h.objs[b]? else none := by
  unfold cut0
  simp only [Array.getElem?_extract]
  by_cases hb : b < n
  · rw [if_pos hb]
    by_cases h2 : b < h.objs.size
    · rw [if_pos (by omega), Nat.zero_add]
    · rw [if_neg (by omega)]
      exact (Array.getElem?_eq_none (by omega)).symm
  · rw [if_neg hb, if_neg (by omega)]
theorem cut0_get {h : Heap} {n b : Nat} {o : Obj} (e : (cut0 h n).get? b = some o) : b < n ∧ h.get? b = some o := by
  have ix := cut0_ix (h := h) (n := n) (b := b)
  unfold Heap.get? at e ⊢
  rw [ix] at e
  by_cases hb : b < n
  · rw [if_pos hb] at e
    exact ⟨hb, e⟩
  · rw [if_neg hb] at e
    cases e
theorem cut0_at {h : Heap} {n b : Nat} {o : Obj} (hb : b < n) (e : h.get? b = some o) : (cut0 h n).get? b = some o := by
  have ix := cut0_ix (h := h) (n := n) (b := b)
  unfold Heap.get? at e ⊢
  rw [ix, if_pos hb]
  exact e
theorem cut0_size {h : Heap} {n : Nat} : (cut0 h n).objs.size = min n h.objs.size := by
  unfold cut0
  simp
theorem cut0_funs {h base : Heap} {n : Nat} : ∀ {l : List Env}, h.FunFrames base l → (∀ b ∈ frs l, b < n) → (cut0 h n).FunFrames base l
  | [], _, _ => trivial
  | env :: rest, ⟨hk, ⟨L, o, e1, e2, e3, e4⟩, hr⟩, hb => by
    refine ⟨hk, ⟨L, o, e1, e2, cut0_at (hb L ?_) e3, e4⟩, cut0_funs hr fun b q => hb b ?_⟩
    · unfold frs
      rw [List.filterMap_cons, e1]
      exact List.mem_cons_self
    · unfold frs at q ⊢
      rw [List.filterMap_cons, e1]
      exact List.mem_cons_of_mem _ q
/-- the context over another ground -/
def rebC (X : Cx) (b : Shared × Hp) : Cx := { X with s_0 := { b.1 with heap := cut0 b.1.heap X.s_0.heap.objs.size }, H_0 := b.2 }
/-- the untracked objects stay -/
theorem un_cut {fs ex : List Addr} {H : Hp} {h : Heap} {n : Nat} : Un fs ex H H (cut0 h n) h where
  keep := fun _ _ e _ _ _ => (cut0_get e).2
  slot := fun _ o e _ _ _ => ⟨o.slots, (cut0_get e).2⟩
  free := fun _ _ _ q _ => q
  there := fun _ o e _ => ⟨o, (cut0_get e).2⟩
  tups := fun _ _ q => q
  frzs := fun _ _ _ q => q
  tbls := fun _ ps q => ⟨#[], by rw [q]; simp⟩
/-- what is known of a state in which a sleeping generator is woken -/
structure Wok (X : Cx) (gp : List (Addr × Obj)) (s : Shared) (H : Hp) : Prop where
  bare : AllBare s.gens
  bs : ∀ b o, X.base.get? b = some o → s.heap.get? b = some o ∧ H b = none
  bsz : X.base.objs.size ≤ s.heap.objs.size
  funs : s.heap.FunFrames X.base X.outer
  frf : ∀ b ∈ X.fs, H b = none
  hok : HOk X.prog X.w H s.heap
  gp : ∀ p ∈ gp, s.heap.get? p.1 = some p.2 ∧ H p.1 = none
section
variable {X : Cx} {pins : List (Addr × Obj)} {σ : L2.St} {H H' : Hp} {s s' : Shared} {b : Shared × Hp} {oL : Obj}
/-- over the ground where it stands -/
theorem inv_reb (I : Inv X pins σ H s) : Inv (rebC X (s, H)) pins σ H s := by
  have fr : ∀ q ∈ X.fs, q < X.s_0.heap.objs.size := fun q hq => by
    obtain ⟨_, o, ho, _⟩ := I.ok.funs.mem hq
    exact Heap.lt_size ho
  have hfs : ∀ q ∈ X.fs, H q = none := fun q hq => by
    obtain ⟨_, o, ho, _⟩ := I.ok.funs.mem hq
    exact I.base.free q o ho (I.ok.frf q hq) fun z => I.ok.exfs q z hq
  have sz : (cut0 s.heap X.s_0.heap.objs.size).objs.size = X.s_0.heap.objs.size := by
    rw [cut0_size]
    exact Nat.min_eq_left I.sz
  refine ⟨⟨I.ok.mod, I.ok.kind, I.ok.glob, I.ok.blt, ?_, I.ok.inj, I.ok.has, fun x c h1 h2 => ?_, I.ok.hd, I.ok.frames, I.ok.stk, I.ok.exf, fun q o e => ?_, ?_, I.ok.noex, I.ok.exfs, cut0_funs I.funs fr, hfs⟩, rfl, I.bare, un_cut, I.loc, I.cell, I.free, I.freeC, I.pin, I.hok, I.len⟩
  · show (cut0 s.heap _).objs.size ≤ _
    rw [sz]; exact I.ok.above
  · show (cut0 s.heap _).objs.size ≤ _
    rw [sz]; exact I.ok.cab x c h1 h2
  · obtain ⟨e1, e2⟩ := I.bs q o e
    exact ⟨cut0_at (Nat.lt_of_lt_of_le (Heap.lt_size e) I.ok.bsz) e1, e2⟩
  · show _ ≤ (cut0 s.heap _).objs.size
    rw [sz]; exact I.ok.bsz
/-- woken: what is its own stands as it stood -/
theorem inv_wake (I : Inv (rebC X b) pins σ H s) (hnl : X.s_0.heap.objs.size ≤ X.env.locals) (hbz : X.base.objs.size ≤ X.s_0.heap.objs.size) (hfr : ∀ q ∈ X.fs, q < X.s_0.heap.objs.size) (hc : ∀ x, X.env.cells.lookup x = none) (hL : s.heap.get? X.env.locals = some oL)
    (w : Wok X ((X.env.locals, oL) :: (X.pn ++ pins)) s' H') : Inv (rebC X (s', H')) pins σ H' s' := by
  obtain ⟨w1, w2⟩ := w.gp (X.env.locals, oL) List.mem_cons_self
  have lt : X.env.locals < s'.heap.objs.size := Heap.lt_size w1
  have sz : (cut0 s'.heap X.s_0.heap.objs.size).objs.size = X.s_0.heap.objs.size := by
    rw [cut0_size]
    exact Nat.min_eq_left (Nat.le_trans hnl (Nat.le_of_lt lt))
  refine ⟨⟨I.ok.mod, I.ok.kind, I.ok.glob, I.ok.blt, ?_, I.ok.inj, I.ok.has, fun x c _ h2 => ?_, I.ok.hd, I.ok.frames, I.ok.stk, I.ok.exf, fun q o e => ?_, ?_, I.ok.noex, I.ok.exfs, cut0_funs w.funs hfr, w.frf⟩, rfl, w.bare, un_cut, ?_, fun x c h => ?_, w2, fun x c h => ?_, fun p hp => ?_, w.hok, I.len⟩
  · show (cut0 s'.heap _).objs.size ≤ _
    rw [sz]; exact hnl
  · have h2 : X.env.cells.lookup x = some c := h2
    rw [hc x] at h2; cases h2
  · obtain ⟨e1, e2⟩ := w.bs q o e
    exact ⟨cut0_at (Nat.lt_of_lt_of_le (Heap.lt_size e) hbz) e1, e2⟩
  · show _ ≤ (cut0 s'.heap _).objs.size
    rw [sz]; exact hbz
  · obtain ⟨m, hn, hl⟩ := I.loc
    obtain ⟨o, es, ep, ho, hr⟩ := hn
    have ho' : s.heap.get? X.env.locals = some o := ho
    rw [hL] at ho'
    cases ho'
    refine ⟨m, ⟨oL, es, ep, w1, hr⟩, fun i x v h1 h2 h3 => ?_⟩
    obtain ⟨u, r, l⟩ := hl i x v h1 h2 h3
    refine ⟨u, r, l.imp (fun z => z) fun z => ?_⟩
    obtain ⟨_, c, e, _⟩ := z
    have e : X.env.cells.lookup x = some c := e
    rw [hc x] at e; cases e
  · have h : X.env.cells.lookup x = some c := h
    rw [hc x] at h; cases h
  · have h : X.env.cells.lookup x = some c := h
    rw [hc x] at h; cases h
  · obtain ⟨_, _, k3, k4, k5⟩ := I.pin p hp
    obtain ⟨g1, g2⟩ := w.gp p (List.mem_cons_of_mem _ hp)
    exact ⟨g1, g2, k3, k4, k5⟩
end

/-! ### a generator's body whose yields are the consumer's turns -/
abbrev TurnK := List V → V → Hp → (Hp → Prop) → Prop
abbrev WakeZ := List V → Shared → Hp → Prop
/-- the state in which the generator was woken -/
structure Gnd (X : Cx) (Z : WakeZ) (ys : List V) (s : Shared) (H : Hp) : Prop where
  z : Z ys s H
  sz : X.s_0.heap.objs.size ≤ s.heap.objs.size
/-- what a generator's body may count on -/
structure Alone (X : Cx) : Prop where
  nox : ∀ e s, X.xe e s → False
  nl : X.s_0.heap.objs.size ≤ X.env.locals
  bz : X.base.objs.size ≤ X.s_0.heap.objs.size
  fr : ∀ q ∈ X.fs, q < X.s_0.heap.objs.size
  nc : ∀ x, X.env.cells.lookup x = none
def GYf (X : Cx) (Z : WakeZ) (Kc : TurnK) : Protocol := fun n s₀ v s kap =>
  ∃ ys x ip σ H0 H oL post, n + 1 + ys.length = sizeLine ∧ RelV x v ∧ Gnd X Z ys s₀ H0 ∧ Inv (rebC X (s₀, H0)) ip σ H s ∧ s.heap.get? X.env.locals = some oL ∧ Kc ys x H post ∧
    ∀ s' H', Wok X ((X.env.locals, oL) :: (X.pn ++ ip)) s' H' → Z (ys ++ [x]) s' H' → post H' → kap (.send .none) s'
def GRf (X : Cx) (Z : WakeZ) (Q : List V → VK) : GenEnd := fun n s₀ r s => match r with
  | .ok (.ret u) => ∃ ys v ip σ H0 H, n + ys.length = sizeLine ∧ Gnd X Z ys s₀ H0 ∧ Inv (rebC X (s₀, H0)) ip σ H s ∧ RelV v u ∧ Q ys v H
  | _ => False
def GPf (X : Cx) (Z : WakeZ) (ip : List (Addr × Obj)) (D : GEnds) (ys : List V) (s₀ : Shared) (f : Flow) (s : Shared) : Prop := ∃ H0, Gnd X Z ys s₀ H0 ∧ SP (rebC X (s₀, H0)) ip (D.at ys) f s
structure GCf (X : Cx) (A : Around) (c : Code) (fs : List Frame) (gd : Bool → Bool) : Prop where
  over : A.over c fs = X.A
  split : splitAtGen fs = none
  guard : fs.any Frame.guarded = false
  gd : gd false = false
def GKf (X : Cx) (Z : WakeZ) (Kc : TurnK) (ip : List (Addr × Obj)) (A : Around) (R : GenEnd) (c : Code) (fs : List Frame) (K : Flow → Sem PySem.Fin) (D : GEnds) : Prop :=
  ∀ (n : Nat) (ys : List V) (s₀ s : Shared) (f : Flow), n + ys.length = sizeLine → GPf X Z ip D ys s₀ f s → Seg (model X.prog X.w) A R (GYf X Z Kc) n s₀ c (K f) fs s
def GRun (X : Cx) (Z : WakeZ) (Kc : TurnK) (m : Sem Flow) (t : TGn) : Prop :=
  ∀ (A : Around) (ip : List (Addr × Obj)) (R : GenEnd) (n : Nat) (ys : List V) (s₀ : Shared) (H0 : Hp) (c : Code) (fs : List Frame) (K : Flow → Sem PySem.Fin) (J : Value → Sem PySem.Fin) (gd : Bool → Bool) (lv : List Value → List Value) (s : Shared) (σ : L2.St) (H : Hp) (D : GEnds),
    GCf X A c fs gd → n + ys.length = sizeLine → Gnd X Z ys s₀ H0 → GKf X Z Kc ip A R c fs K D → Inv (rebC X (s₀, H0)) ip σ H s → t D ys σ H → Seg (model X.prog X.w) A R (GYf X Z Kc) n s₀ c (m.wrap K J gd lv) fs s
structure GSf (X : Cx) (Z : WakeZ) (Kc : TurnK) (st : Stmt) (t : TGn) : Prop where
  run : GRun X Z Kc (exec st X.env) t
structure GSsf (X : Cx) (Z : WakeZ) (Kc : TurnK) (st : List Stmt) (t : TGn) : Prop where
  run : GRun X Z Kc (execs st X.env) t
section
variable {X : Cx} {Z : WakeZ} {Kc : TurnK} {st : Stmt} {rest : List Stmt}
theorem gsf_ps {t : TS} (al : Alone X) (h : ∀ b, PS (rebC X b) st t) : GSf X Z Kc st (tPlain t) := by
  refine ⟨fun A ip R n ys s₀ H0 c fs K J gd lv s σ H D g hn hz k I ht => ?_⟩
  refine seg_wrap ?_
  rw [g.over]
  exact wpAny_mono ((h (s₀, H0)).run ip s σ H (D.at ys) I ht) (fun f s' hs => k n ys s₀ s' f hn ⟨H0, hz, hs⟩) fun x s' hx => (al.nox x s' hx).elim
theorem gssf_nil : GSsf X Z Kc [] tG0 := by
  refine ⟨fun A ip R n ys s₀ H0 c fs K J gd lv s σ H D g hn hz k I ht => ?_⟩
  exact seg_execs_nil (k n ys s₀ s .next hn ⟨H0, hz, σ, H, I, ht⟩)
theorem gssf_cons {t u : TGn} (a : GSf X Z Kc st t) (b : GSsf X Z Kc rest u) : GSsf X Z Kc (st :: rest) (tGThen t u) := by
  refine ⟨fun A ip R n ys s₀ H0 c fs K J gd lv s σ H D g hn hz k I ht => ?_⟩
  refine seg_execs_cons (a.run A ip R n ys s₀ H0 c fs _ J gd lv s σ H { D with nx := fun ys' σ' H' => u D ys' σ' H' } g hn hz (fun n' ys' s₀' s' f hn' hs => ?_) I ht)
  cases f with
  | next =>
    obtain ⟨H0', hz', σ', H', I', q⟩ := hs
    exact b.run A ip R n' ys' s₀' H0' c fs K J gd lv s' σ' H' D g hn' hz' k I' q
  | brk => exact k n' ys' s₀' s' .brk hn' hs
  | cont => exact k n' ys' s₀' s' .cont hn' hs
  | ret u => exact k n' ys' s₀' s' (.ret u) hn' hs
theorem gssf_one {t : TGn} (h : GSf X Z Kc st t) : GSsf X Z Kc [st] t := by
  have h2 := gssf_cons h (gssf_nil (X := X) (Z := Z) (Kc := Kc))
  exact ⟨fun A ip R n ys s₀ H0 c fs K J gd lv s σ H D g hn hz k I ht => h2.run A ip R n ys s₀ H0 c fs K J gd lv s σ H D g hn hz k I ht⟩
theorem gssf_stop {t : TGn} (h : GSsf X Z Kc rest t) : GSsf X Z Kc rest (gstop t) := ⟨fun A ip R n ys s₀ H0 c fs K J gd lv s σ H D g hn hz k I ht => h.run A ip R n ys s₀ H0 c fs K J gd lv s σ H D g hn hz k I ht.go⟩
theorem gsf_if {test : Expr} {body orelse : List Stmt} {pos : Pos} {c : TT} {t u : TGn} (al : Alone X) (hc : ∀ b, PT (rebC X b) test c) (ha : GSsf X Z Kc body t) (hb : GSsf X Z Kc orelse u) : GSf X Z Kc (.If test body orelse pos) (tGIf c t u) := by
  refine ⟨fun A ip R n ys s₀ H0 cd fs K J gd lv s σ H D g hn hz k I ht => ?_⟩
  show Seg _ _ _ _ _ _ _ ((do standAt pos; if ← isTrue test X.env (eval test X.env) then execs body X.env else execs orelse X.env : Sem Flow).wrap K J gd lv) _ _
  refine seg_bind_wrap (wpAny_standAt (seg_bind_wrap ?_))
  rw [g.over]
  refine wpAny_mono ((hc (s₀, H0)).run ip s σ H _ I ht) (fun b s' hb' => ?_) fun x s' hx => (al.nox x s' hx).elim
  obtain ⟨H2, I2, q2⟩ := hb'
  cases b with
  | true =>
    rw [if_pos rfl]
    exact ha.run A ip R n ys s₀ H0 cd fs K J gd lv s' σ H2 D g hn hz k I2 q2
  | false =>
    rw [if_neg Bool.false_ne_true]
    exact hb.run A ip R n ys s₀ H0 cd fs K J gd lv s' σ H2 D g hn hz k I2 q2
/-- yield e: the consumer's turn -/
def tFYield (Kc : TurnK) (te : TE) : TGn := fun D ys σ H => Need (ys.length < sizeLine) (te σ H fun x H1 => Kc ys x H1 fun H' => D.nx (ys ++ [x]) σ H')
theorem gsf_yield {e : Expr} {te : TE} {yp pos : Pos} (al : Alone X) (he : ∀ b, PE (rebC X b) e te) (hco : X.env.scope.isCoroutine = false := by rfl) (hi : interactive X.env = false := by rfl) : GSf X Z Kc (.Expr (.Yield (some e) yp) pos) (tFYield Kc te) := by
  refine ⟨fun A ip R n ys s₀ H0 c fs K J gd lv s σ H D g hn hz k I ht => ?_⟩
  obtain ⟨hlt, ht⟩ := ht
  obtain ⟨n, rfl⟩ : ∃ m, n = m + 1 := ⟨n - 1, by omega⟩
  refine seg_Expr_Yield g.split g.gd g.guard ?_ hco hi
  rw [g.over]
  refine wpAny_mono ((he (s₀, H0)).run ip s σ H _ I ht) (fun v s' hv => ?_) fun x s' hx => (al.nox x s' hx).elim
  obtain ⟨x, H1, I1, rv, q⟩ := hv
  intro kap hk
  obtain ⟨m, ⟨oL, es, ep, hL, hr⟩, _⟩ := id I1.loc
  have hL : s'.heap.get? X.env.locals = some oL := hL
  refine ⟨ys, x, ip, σ, H0, H1, oL, _, hn, rv, hz, I1, hL, q, fun s2 H2 w z p => hk .none s2 ?_⟩
  have lt : X.env.locals < s2.heap.objs.size := Heap.lt_size (w.gp (X.env.locals, oL) List.mem_cons_self).1
  refine k n (ys ++ [x]) s2 s2 .next ?_ ⟨H2, ⟨z, Nat.le_trans al.nl (Nat.le_of_lt lt)⟩, σ, H2, inv_wake I1 al.nl al.bz al.fr al.nc hL w, p⟩
  rw [List.length_append, List.length_singleton]; omega
theorem gcf_loop {A : Around} {c c' : Code} {fs : List Frame} {gd : Bool → Bool} {k : Result → Sem PySem.Fin} {l kp : List Value} {p : Pos} (g : GCf X A c fs gd) (hw : c'.weight = 0) (hu : c'.cUnits = 0) :
    GCf X A c' (.ret k none (gd false) l c p kp :: fs) id := by
  refine ⟨(over_loop hw hu).trans g.over, ?_, ?_, rfl⟩
  · show (splitAtGen fs).map _ = none
    rw [g.split] <;> rfl
  · show (gd false || fs.any Frame.guarded) = false
    rw [g.gd, g.guard] <;> rfl
theorem fpOk_reb {b b' : Shared × Hp} {ip : List (Addr × Obj)} {H H' : Hp} {q : Addr} (h : FpOk (rebC X b) ip H q) (hz : X.s_0.heap.objs.size ≤ b.1.heap.objs.size) (hn : H' q = none) : FpOk (rebC X b') ip H' q := by
  obtain ⟨_, h2, h3, h4, h5, h6⟩ := h
  refine ⟨hn, h2, h3, h4.imp (fun z => z) fun z => ?_, h5, h6⟩
  have z : (cut0 b.1.heap X.s_0.heap.objs.size).objs.size ≤ q := z
  show (cut0 b'.1.heap X.s_0.heap.objs.size).objs.size ≤ q
  rw [cut0_size] at z ⊢
  have z2 := Nat.min_eq_left hz
  rw [z2] at z
  exact Nat.le_trans (Nat.min_le_left _ _) z
theorem gsf_for {tg iter : Expr} {body : List Stmt} {wi : TI} {g : TG} {tb : TGn} {pos : Pos} (al : Alone X) (hc : X.calm = true) (hi : ∀ b, PI (rebC X b) tg iter wi) (hg : ∀ b, PG (rebC X b) tg g) (hb : GSsf X Z Kc body tb)
    (hs : ∀ x, foldedSetIterable iter X.env x = pure x := by intro _; rfl) : GSf X Z Kc (.For tg iter body [] pos) (dGFor wi g tb) := by
  refine ⟨fun A ip R n ys s₀ H0 c fs K J gd lv s σ H D gc hn hz k I ht => ?_⟩
  rw [exec_For]
  refine seg_bind_wrap (wpAny_standAt (seg_bind_wrap ?_))
  rw [gc.over]
  refine wpAny_mono ((hi (s₀, H0)).run ip s σ H _ I ht) (fun v s1 h1 => ?_) fun x s' hx => (al.nox x s' hx).elim
  refine seg_bind_wrap (wpAny_of_eq (hs v) (seg_bind_wrap (wpAny_standAt (seg_bind_wrap (wpAny_holding ?_)))))
  rw [gc.over]
  refine wpAny_mono h1 (fun itv s2 h2 => ?_) fun x s' hx => (al.nox x s' hx).elim
  obtain ⟨it, fp, tn, It, H2, e, I2, T, st2, f2, W, ⟨m0, w0⟩, turn⟩ := h2
  subst e
  refine seg_call fun p => ?_
  have gl := fun (kk : Result → Sem PySem.Fin) => gcf_loop (k := kk) (c' := .forLoop tg (.ref it) body [] X.env) (l := lv []) (kp := []) (p := p) gc rfl rfl
  have stat : ∀ {b' : Shared × Hp} {H' : Hp}, (∀ b ∈ fp, H' b = none) → ∀ b ∈ fp, FpOk (rebC X b') ip H' b := fun hn b hb => fpOk_reb (f2 b hb) hz.sz (hn b hb)
  have loop : ∀ (m i n : Nat) (ys : List V) (s₀ : Shared) (H0 : Hp) (s : Shared) (σ : L2.St) (H : Hp), n + ys.length = sizeLine → Gnd X Z ys s₀ H0 → W i m ys σ H → Inv (rebC X (s₀, H0)) ip σ H s → tn i s.heap → (∀ b ∈ fp, H b = none) →
      Seg (model X.prog X.w) A R (GYf X Z Kc) n s₀ (.forLoop tg (.ref it) body [] X.env) ((model X.prog X.w).den (.forLoop tg (.ref it) body [] X.env))
        (.ret (fun r => ((match r with | .ok f => (.pure f : Sem Flow) | .error e => .raise e).onRaise (cameBack X.env)).wrap K J gd lv) none (gd false) (lv []) c p [] :: fs) s := by
    intro m
    induction m using Nat.strongRecOn with
    | ind m ih =>
      intro i n ys s₀ H0 s σ H hn hz w I st fr
      refine seg_forLoop ?_
      rw [(gl _).over]
      rcases turn i m ys σ H w with ⟨stop, qn⟩ | ⟨go, N, hN, step⟩
      · refine wpAny_mono (T.done (rebC X (s₀, H0)) rfl rfl rfl hc i ip s σ H X.xe I (stat fr) st stop) (fun r s4 h4 => ?_) fun x s' hx => (al.nox x s' hx).elim
        obtain ⟨hr, I4⟩ := h4
        subst hr
        refine seg_block0 ?_
        exact seg_leaf (.ok .next) (k n ys s₀ s4 .next hn ⟨H0, hz, σ, H, I4, qn⟩)
      · refine wpAny_mono (T.item (rebC X (s₀, H0)) rfl rfl rfl hc i ip s σ H X.xe I (stat fr) st go) (fun r s4 h4 => ?_) fun x s' hx => (al.nox x s' hx).elim
        obtain ⟨u, hr, h4⟩ := h4
        subst hr
        refine wpAny_mono h4 (fun _ s5 h5 => ?_) fun x s' hx => (al.nox x s' hx).elim
        obtain ⟨x, H5, I5, r5, y5, st5, fr5⟩ := h5
        have I5' := I5.pinned (stat fr5) (T.obj _ _ st5)
        refine wpAny_mono ((hg (s₀, H0)).run _ s5 σ H5 x u _ I5' r5 (step x H5 y5)) (fun _ s6 h6 => ?_) fun x s' hx => (al.nox x s' hx).elim
        obtain ⟨σ6, H6, I6, q6⟩ := h6
        have again : ∀ {ys' : List V} {σ7 : L2.St} {H7 H0' : Hp} {s7 : Shared} {n' : Nat} {s₀' : Shared}, n' + ys'.length = sizeLine → Gnd X Z ys' s₀' H0' → Inv (rebC X (s₀', H0')) (ip ++ pinsAt fp s5.heap) σ7 H7 s7 → N ys' σ7 H7 →
            Seg (model X.prog X.w) A R (GYf X Z Kc) n' s₀' (.forLoop tg (.ref it) body [] X.env) (.pure (.again (.forLoop tg (.ref it) body [] X.env)))
            (.ret (fun r => ((match r with | .ok f => (.pure f : Sem Flow) | .error e => .raise e).onRaise (cameBack X.env)).wrap K J gd lv) none (gd false) (lv []) c p [] :: fs) s7 := by
          intro ys' σ7 H7 H0' s7 n' s₀' hn' hz' I7 n7
          obtain ⟨m', hm, w7⟩ := hN ys' σ7 H7 n7
          have pin : ∀ b ∈ fp, ∀ o, s5.heap.get? b = some o → s7.heap.get? b = some o ∧ H7 b = none := fun b hb o e => by
            have := I7.pin (b, o) (List.mem_append_right _ (List.mem_append_right _ (mem_pinsAt hb e)))
            exact ⟨this.1, this.2.1⟩
          refine seg_again rfl (ih m' hm (i + 1) n' ys' s₀' H0' s7 σ7 H7 hn' hz' w7 I7.unpinned (T.keep _ _ _ st5 fun b hb o e => (pin b hb o e).1) fun b hb => ?_)
          obtain ⟨o, e, d⟩ := T.obj _ _ st5 b hb
          exact (pin b hb o e).2
        refine hb.run A (ip ++ pinsAt fp s5.heap) R n ys s₀ H0 _ _ _ _ id id s6 σ6 H6 { D with nx := N, ct := N, bk := D.nx } (gl _) hn hz (fun n' ys' s₀' s7 f hn' hs => ?_) I6 q6
        obtain ⟨H0', hz', hs⟩ := hs
        cases f with
        | next =>
          obtain ⟨σ7, H7, I7, n7⟩ := hs
          exact again hn' hz' I7 n7
        | cont =>
          obtain ⟨σ7, H7, I7, n7⟩ := hs
          exact again hn' hz' I7 n7
        | brk =>
          obtain ⟨σ7, H7, I7, q7⟩ := hs
          exact seg_leaf (.ok .next) (k n' ys' s₀' s7 .next hn' ⟨H0', hz', σ7, H7, I7.unpinned, q7⟩)
        | ret v =>
          obtain ⟨y, σ7, H7, I7, r7, q7⟩ := hs
          exact seg_leaf (.ok (.ret v)) (k n' ys' s₀' s7 (.ret v) hn' ⟨H0', hz', y, σ7, H7, I7.unpinned, r7, q7⟩)
  exact loop m0 0 n ys s₀ H0 s2 σ H2 hn hz w0 I2 st2 fun b hb => (f2 b hb).1
end

/-! ### the call of such a def -/
abbrev SpF := List V → Hp → TurnK → (List V → Hp → Prop) → Prop
structure Wok0 (P : Program) (w : World) (base : Heap) (outer : List Env) (gp : List (Addr × Obj)) (s : Shared) (H : Hp) : Prop where
  bare : AllBare s.gens
  bs : ∀ b o, base.get? b = some o → s.heap.get? b = some o ∧ H b = none
  bsz : base.objs.size ≤ s.heap.objs.size
  funs : s.heap.FunFrames base outer
  frf : ∀ b ∈ frs outer, H b = none
  hok : HOk P w H s.heap
  gp : ∀ p ∈ gp, s.heap.get? p.1 = some p.2 ∧ H p.1 = none
/-- an item is handed out: n objects stood when the generator was made -/
def YItF (P : Program) (w : World) (base : Heap) (outer : List Env) (ng : Nat) (a : Addr) (g : Nat) (Z : WakeZ) (Kc : TurnK) : Protocol := fun n s₀ v s1 kap =>
  ∃ ys x H0 H gp post, n + 1 + ys.length = sizeLine ∧ RelV x v ∧ Z ys s₀ H0 ∧ s1.os = s₀.os ∧ AllBare s1.gens ∧ s1.heap.NoLimit ∧ s1.heap.IsGen a g ∧ Un (frs outer) [] H0 H (cut0 s₀.heap ng) s1.heap ∧ HOk P w H s1.heap ∧
    (∀ p ∈ gp, s1.heap.get? p.1 = some p.2 ∧ H p.1 = none ∧ p.1 ∉ frs outer ∧ ∀ v, p.2.data ≠ .cell v) ∧ (∃ o, (a, o) ∈ gp) ∧ Kc ys x H post ∧ ∀ s' H', Wok0 P w base outer gp s' H' → Z (ys ++ [x]) s' H' → post H' → kap (.send .none) s'
/-- the end -/
def FEnd (P : Program) (w : World) (outer : List Env) (ng : Nat) (Z : WakeZ) (Q : List V → Hp → Prop) (s₀ s1 : Shared) : Prop :=
  ∃ ys H0 H, Z ys s₀ H0 ∧ s1.os = s₀.os ∧ AllBare s1.gens ∧ Un (frs outer) [] H0 H (cut0 s₀.heap ng) s1.heap ∧ HOk P w H s1.heap ∧ Q ys H
def REnF (P : Program) (w : World) (outer : List Env) (ng : Nat) (Z : WakeZ) (Q : List V → Hp → Prop) : GenEnd := fun _ s₀ r s1 => ((r = .ok (.ret .none) ∨ r = .ok .next) ∧ FEnd P w outer ng Z Q s₀ s1) ∨ ∃ e, r = .error e ∧ False
/-- a generator that has not begun -/
def GMadeF (P : Program) (w : World) (K : Frag) (mg : Str → Option Value) (base : Heap) (k : Nat) (outer : List Env) (H : Hp) (s : Shared) (Kc : TurnK) (Q : List V → Hp → Prop) (u : Value) (s' : Shared) : Prop :=
  ∃ (a : Addr) (g : Nat) (c : Code), u = .ref a ∧ s.heap.objs.size ≤ a ∧ s'.heap.IsGen a g ∧ s'.gens[g]? = some (.fresh c) ∧ s'.os = s.os ∧ AllBare s'.gens ∧ s'.heap.NoLimit ∧ (∀ b o, s.heap.get? b = some o → s'.heap.get? b = some o) ∧
    ∀ (A : Around) (Z : WakeZ) (s2 : Shared), Room k A → A.frames = some outer → Env0 P w K mg base A outer s2 H → s2.heap = s'.heap → s2.os = s'.os → Z [] s2 H →
      Seg (model P w) A (REnF P w outer s.heap.objs.size Z Q) (YItF P w base outer s.heap.objs.size a g Z Kc) sizeLine s2 c ((model P w).den c) [] s2
def gcx0 (P : Program) (w : World) (K : Frag) (mg : Str → Option Value) (base : Heap) (N : List Str) (qual : Str) (scope : Scope) (f : Addr) (cd : Value) (A : Around) (outer : List Env) (s : Shared) (H : Hp) (pn : List (Addr × Obj)) : Cx :=
  { cxOf (L2.CX P w) P w K mg base N qual scope f cd A outer s H (fun _ _ _ => False) with pn := pn, xe := fun _ _ => False }
theorem cells_no {x : Str} : ∀ {names : List (Str × NameKind)} {n : Nat}, (∀ y ∈ names, y.2 ≠ .cell) → (cellsFrom n names []).lookup x = none
  | [], _, _ => rfl
  | (y, k) :: r, n, h => by
    have hk : (k == .cell) = false := by
      have := h (y, k) List.mem_cons_self
      cases k <;> first | rfl | exact absurd rfl this
    unfold cellsFrom
    rw [hk, if_neg Bool.false_ne_true]
    exact cells_no fun z hz => h z (List.mem_cons_of_mem _ hz)
structure GFF (P : Program) (w : World) (K : Frag) (mg : Str → Option Value) (base : Heap) (k : Nat) (f : Addr) (sp : SpF) : Prop where
  run : ∀ (A : Around) (outer : List Env) (s : Shared) (H : Hp) (us : List Value) (vs : List V) (Kc : TurnK) (Q : List V → Hp → Prop), Room k A → Env0 P w K mg base A outer s H → Vals vs us → sp vs H Kc Q →
    codeAny (model P w) A (.call (.ref f) ⟨us, []⟩) (fun r s' => match r with | .ok (.ret u) => GMadeF P w K mg base k outer H s Kc Q u s' | _ => False) s
theorem inv_swap {X Y : Cx} {pins : List (Addr × Obj)} {σ : L2.St} {H : Hp} {s : Shared} (I : Inv X pins σ H s) (e : Y = { X with xe := Y.xe }) : Inv Y pins σ H s := by
  rw [e]
  exact ⟨⟨I.ok.mod, I.ok.kind, I.ok.glob, I.ok.blt, I.ok.above, I.ok.inj, I.ok.has, I.ok.cab, I.ok.hd, I.ok.frames, I.ok.stk, I.ok.exf, I.ok.bs, I.ok.bsz, I.ok.noex, I.ok.exfs, I.ok.funs, I.ok.frf⟩, I.os, I.bare, I.base, I.loc, I.cell, I.free, I.freeC, I.pin, I.hok, I.len⟩
theorem inv_pn {X : Cx} {pn : List (Addr × Obj)} {σ : L2.St} {H : Hp} {s : Shared} (I : Inv X [] σ H s) (h : ∀ p ∈ pn, s.heap.get? p.1 = some p.2 ∧ H p.1 = none ∧ p.1 ≠ X.env.locals ∧ p.1 ∉ X.fs ∧ ∀ v, p.2.data ≠ .cell v) : Inv { X with pn := pn } [] σ H s :=
  ⟨⟨I.ok.mod, I.ok.kind, I.ok.glob, I.ok.blt, I.ok.above, I.ok.inj, I.ok.has, I.ok.cab, I.ok.hd, I.ok.frames, I.ok.stk, I.ok.exf, I.ok.bs, I.ok.bsz, I.ok.noex, I.ok.exfs, I.ok.funs, I.ok.frf⟩, I.os, I.bare, I.base, I.loc, I.cell, I.free, I.freeC, fun p hp => h p (by simpa using hp), I.hok, I.len⟩
/-- a generator def's promise to a loop, by its body -/
theorem gff_of {P : Program} {w : World} {K : Frag} {mg : Str → Option Value} {base : Heap} {k : Nat} {f : Addr} {x qual : Str} {params : Arguments} {body : List Stmt} {scope : Scope} {fd : FuncData} {N ps : List Str} {sp : SpF}
    (F : FunD K x qual params body scope [] [] f fd) (S : GScope N ps scope) (hnc : ∀ y ∈ scope.names, y.2 ≠ .cell) (len : ∀ vs H Kc Q, sp vs H Kc Q → vs.length = ps.length)
    (hbi : ∀ (kV doc pm : Value) (an : Option Addr) (cdv ct : Value) (us : List Value), us.length = ps.length → bindArgs (PySem.W.fnOf x qual params body scope .none kV doc pm an cdv ct) ⟨us, []⟩ = pure (ps.zip us)) {t : TurnK → TGn}
    (hbody : ∀ (cdv : Value) (A : Around) (outer : List Env) (s : Shared) (H : Hp) (pn : List (Addr × Obj)) (Z : WakeZ) (Kc : TurnK), Room k (A.deeper (envOfC qual scope s.heap.objs.size f cdv)) → Alone (gcx0 P w K mg base N qual scope f cdv A outer s H pn) →
      GSsf (gcx0 P w K mg base N qual scope f cdv A outer s H pn) Z Kc body (t Kc))
    (pure : ∀ vs H Kc Q, sp vs H Kc Q → t Kc { nx := fun ys _ H' => Q ys H', rt := fun ys v H' => v = .non ∧ Q ys H' } [] (start N vs) H) : GFF P w K mg base (k + 1) f sp := by
  refine ⟨fun A outer s H us vs Kc Q hr e0 r hsp => ?_⟩
  have hb := F.bindsN hbi
  obtain ⟨oc, od, dV, kV, doc, pm, an, cdv, ct, osl, rfl, lk, hcd, _, _⟩ := F.ex
  have hl := len _ _ _ _ hsp
  have hl2 : us.length = ps.length := by rw [← r.length]; exact hl
  have KX : K.In s.heap := e0.mod.kin.keeps fun b o e => (e0.bs b o e).1
  have lim : s.heap.NoLimit := e0.mod.nolimit.keeps fun b o e => (e0.bs b o e).1
  have hkind : ∀ y ∈ ps.zip us, scope.names.lookup y.1 = some .local ∨ (scope.names.lookup y.1 = some .cell ∧ ((cellsFrom (s.heap.objs.size + 1) scope.names []).lookup y.1).isSome = true) := fun ⟨n, v⟩ hy => by
    rcases S.par n (List.of_mem_zip hy).1 with q | q
    · exact .inl q
    · exact absurd rfl (hnc _ (PySem.mem_of_lookup q))
  have hbind := hb s us KX (by simpa using hl2)
  rw [List.append_nil] at hbind
  refine codeAny_call_generator hr.depth (KX _ _ lk) rfl S.co S.gen rfl (PySem.W.codeRec_of KX hcd) (hbind _ _ _ _ ?_)
  refine wpAny_newFunctionEnv_cells S.kind hkind fun env he s1 xx => ?_
  subst he
  have lim1 : s1.heap.NoLimit := lim.keeps xx.toInCall.keep
  refine ⟨lim1, ?_⟩
  obtain ⟨h1, tk, es1, hk1⟩ := xx.done
  have os1 : s1.os = s.os := by rw [es1]
  have gen1 : s1.gens = s.gens := by rw [es1]
  have lt1 : s.heap.objs.size < s1.heap.objs.size := xx.toInCall.ns.lt
  have main : ∀ (go : Obj) (nm qn : Value) (tk2 : Nat), go.cls = .type "generator" → go.data = .fields #[.int s1.gens.size 0, nm, qn] → go.slots = #[] → (∀ h : Heap, (h.push go).get? h.objs.size = some go) →
      GMadeF P w K mg base (k + 1) outer H s Kc Q (.ref s1.heap.objs.size) { s1 with gens := s1.gens.push (.fresh (.func body (envOfC qual scope s.heap.objs.size f cdv))), toks := tk2, heap := s1.heap.push go } := by
    intro go nm qn tk2 hgc hgd0 hgs hgp
    have hgen : ∀ h : Heap, h.get? s1.heap.objs.size = some go → h.IsGen s1.heap.objs.size s1.gens.size := fun h e => ⟨go, nm, qn, e, hgc, hgd0, hgs⟩
    have kpush : ∀ b o, s1.heap.get? b = some o → (s1.heap.push go).get? b = some o := fun b o e => Heap.get?_push_of_some _ e
    refine ⟨s1.heap.objs.size, s1.gens.size, _, rfl, Nat.le_of_lt lt1, hgen _ (hgp _), Array.getElem?_push_size .., os1, AllBare.push (by rw [gen1]; exact e0.bare) rfl, lim1.keeps kpush, fun b o e => kpush b o (xx.toInCall.keep b o e), ?_⟩
    intro Aw Z s2 hrw hfr e2 eh eo hz
    have eS : Env0 P w K mg base Aw outer s H := ⟨hfr, e0.mod, e0.bs, e0.bsz, e0.funs, e0.frf, e0.hok, e0.bare⟩
    have I1 : Inv (gcx0 P w K mg base N qual scope f cdv Aw outer s H []) [] (start N vs) H s1 := inv_swap (inv_startG (E := fun _ _ _ => False) S hrw.hd eS hl r xx) rfl
    have hgd : ∀ v, go.data ≠ .cell v := fun v q => by rw [hgd0] at q; cases q
    have al : Alone (gcx0 P w K mg base N qual scope f cdv Aw outer s H [(s1.heap.objs.size, go)]) := ⟨fun _ _ z => z, Nat.le_refl _, e0.bsz, fun q hq => by
      obtain ⟨_, o, ho, _⟩ := e0.funs.mem hq
      exact Heap.lt_size ho, fun y => cells_no hnc⟩
    have hfr0 : ∀ q ∈ frs outer, q < s.heap.objs.size := al.fr
    -- the frame stands in s2 as in s1
    have kp2 : ∀ b o, s1.heap.get? b = some o → s2.heap.get? b = some o := fun b o e => by rw [eh]; exact kpush b o e
    obtain ⟨m, ⟨oL, esL, epL, hL, hdL, hrL⟩, _⟩ := id I1.loc
    have I2 : Inv (gcx0 P w K mg base N qual scope f cdv Aw outer s H []) [] (start N vs) H s2 := I1.call' (ch := []) (eo.trans rfl) (Un.kept kp2) (I1.hok.kept kp2) e2.bare fun b z => by simp at z
    have hpn : s2.heap.get? s1.heap.objs.size = some go := by rw [eh]; exact hgp _
    have I3 : Inv (gcx0 P w K mg base N qual scope f cdv Aw outer s H [(s1.heap.objs.size, go)]) [] (start N vs) H s2 := inv_pn I2 fun p hp => by
      rw [List.mem_singleton.mp hp]
      refine ⟨hpn, I1.hok.fresh (Nat.le_refl _), Nat.ne_of_gt lt1, fun z => ?_, hgd⟩
      exact absurd (Nat.lt_trans (hfr0 _ z) lt1) (Nat.lt_irrefl _)
    have I4 := inv_reb I3
    have gz : Gnd (gcx0 P w K mg base N qual scope f cdv Aw outer s H [(s1.heap.objs.size, go)]) Z [] s2 H := ⟨hz, I3.sz⟩
    refine seg_func ?_
    refine seg_imp (R := GRf (gcx0 P w K mg base N qual scope f cdv Aw outer s H [(s1.heap.objs.size, go)]) Z fun ys v H' => v = .non ∧ Q ys H') (Y := GYf (gcx0 P w K mg base N qual scope f cdv Aw outer s H [(s1.heap.objs.size, go)]) Z Kc)
      (fun n s₀ r s1' hR => ?_) (fun n s₀ v s1' kap kap' hkk hY => ?_) sizeLine ?_
    · cases r with
      | error e => exact False.elim hR
      | ok fl =>
        cases fl with
        | next => exact False.elim hR
        | brk => exact False.elim hR
        | cont => exact False.elim hR
        | ret u =>
          obtain ⟨ys, v, ip, σ', H0, H', hn, hz', J, rv, ev, hQ⟩ := hR
          subst ev
          have eu : u = Value.none := rv
          subst eu
          exact .inl ⟨.inl rfl, ys, H0, H', hz'.z, J.os, J.bare, J.base, J.hok, hQ⟩
    · obtain ⟨ys, y, ip, σ', H0, H', oL', post, hn, rv, hz', J, hL', hk, hw⟩ := hY
      obtain ⟨m', ⟨o', es', ep', ho', hd', _⟩, _⟩ := id J.loc
      have ho' : s1'.heap.get? s.heap.objs.size = some o' := ho'
      have hL' : s1'.heap.get? s.heap.objs.size = some oL' := hL'
      rw [hL'] at ho'
      cases ho'
      refine ⟨ys, y, H0, H', (s.heap.objs.size, oL') :: ([(s1.heap.objs.size, go)] ++ ip), post, hn, rv, hz'.z, J.os, J.bare, J.nolimit, hgen _ (J.pin (s1.heap.objs.size, go) (List.mem_append_left _ (List.mem_singleton.mpr rfl))).1, J.base, J.hok, fun p hp => ?_, ⟨go, by simp⟩, hk, fun s' H2 wk z p => hkk _ _ (hw s' H2 ⟨wk.bare, wk.bs, wk.bsz, wk.funs, wk.frf, wk.hok, wk.gp⟩ z p)⟩
      rcases List.mem_cons.mp hp with e | hp
      · rw [e]
        refine ⟨hL', J.free, fun z => absurd (hfr0 _ z) (Nat.lt_irrefl _), fun v q => ?_⟩
        have q : oL'.data = .cell v := q
        rw [hd'] at q; cases q
      · obtain ⟨q1, q2, _, q4, q5⟩ := J.pin p hp
        exact ⟨q1, q2, q4, q5⟩
    · refine (hbody cdv Aw outer s H [(s1.heap.objs.size, go)] Z Kc (hrw.deeper _) al).run Aw [] _ sizeLine [] s2 H _ [] _ _ id id s2 (start N vs) H { nx := fun ys _ H' => Q ys H', rt := fun ys v H' => v = .non ∧ Q ys H' } ⟨over_func, rfl, rfl, rfl⟩ (Nat.add_zero _) gz (fun n ys s₀ s' fl hn hs => ?_) I4 (pure vs H Kc Q hsp)
      obtain ⟨H0, hz', hs⟩ := hs
      cases fl with
      | next =>
        obtain ⟨σ', H', J, hQ⟩ := hs
        exact seg_end (.ok (.ret .none)) ⟨ys, .non, [], σ', H0, H', hn, hz', J, rfl, rfl, hQ⟩
      | brk => obtain ⟨_, _, _, q⟩ := hs; exact False.elim q
      | cont => obtain ⟨_, _, _, q⟩ := hs; exact False.elim q
      | ret u =>
        obtain ⟨v, σ', H', J, rv, ev, hQ⟩ := hs
        exact seg_end (.ok (.ret u)) ⟨ys, v, [], σ', H0, H', hn, hz', J, rv, ev, hQ⟩
  exact main _ _ _ _ rfl rfl rfl fun h => Heap.get?_push_size _ rfl
end S
namespace S
open PySem PySem.Spec PyProof.Rows L2 GenW
section
variable (X : Cx)
def OpRg (f : Value → Value → Sem Value) (r : R2) : Prop := ∀ (pins : List (Addr × Obj)) (s : Shared) (σ : L2.St) (H : Hp) (x y : V) (v u : Value) (Q : VK), Inv X pins σ H s → RelV x v → RelV y u → r x y H Q →
  wpAny (model X.prog X.w) X.A (f v u) (fun z s' => s'.gens = s.gens ∧ EP X pins σ Q z s') X.xe s
structure PEg (e : Expr) (t : TE) : Prop where
  run : ∀ (pins : List (Addr × Obj)) (s : Shared) (σ : L2.St) (H : Hp) (Q : VK), Inv X pins σ H s → t σ H Q → wpAny (model X.prog X.w) X.A (eval e X.env) (fun z s' => s'.gens = s.gens ∧ EP X pins σ Q z s') X.xe s
structure PTg (e : Expr) (t : TT) : Prop where
  run : ∀ (pins : List (Addr × Obj)) (s : Shared) (σ : L2.St) (H : Hp) (Q : Bool → Hp → Prop), Inv X pins σ H s → t σ H Q → wpAny (model X.prog X.w) X.A (isTrue e X.env (eval e X.env)) (fun z s' => s'.gens = s.gens ∧ TP X pins σ Q z s') X.xe s
structure PSg (st : Stmt) (t : TS) : Prop where
  run : ∀ (pins : List (Addr × Obj)) (s : Shared) (σ : L2.St) (H : Hp) (D : Ends), Inv X pins σ H s → t D σ H → wpAny (model X.prog X.w) X.A (exec st X.env) (fun z s' => s'.gens = s.gens ∧ SP X pins D z s') X.xe s
structure PSsg (st : List Stmt) (t : TS) : Prop where
  run : ∀ (pins : List (Addr × Obj)) (s : Shared) (σ : L2.St) (H : Hp) (D : Ends), Inv X pins σ H s → t D σ H → wpAny (model X.prog X.w) X.A (execs st X.env) (fun z s' => s'.gens = s.gens ∧ SP X pins D z s') X.xe s
structure PGg (tg : Expr) (t : TG) : Prop where
  run : ∀ (pins : List (Addr × Obj)) (s : Shared) (σ : L2.St) (H : Hp) (v : V) (u : Value) (Q : L2.St → Hp → Prop), Inv X pins σ H s → RelV v u → t v σ H Q →
    wpAny (model X.prog X.w) X.A (assign tg X.env u) (fun _ s' => s'.gens = s.gens ∧ ∃ σ' H', Inv X pins σ' H' s' ∧ Q σ' H') X.xe s
structure PGsg (ts : List Expr) (t : TGs) : Prop where
  run : ∀ (pins : List (Addr × Obj)) (s : Shared) (σ : L2.St) (H : Hp) (vs : List V) (us : List Value) (Q : L2.St → Hp → Prop), Inv X pins σ H s → Vals vs us → t vs σ H Q →
    wpAny (model X.prog X.w) X.A (assignInOrder ((assignEach ts X.env).map (·.2)) us) (fun _ s' => s'.gens = s.gens ∧ ∃ σ' H', Inv X pins σ' H' s' ∧ Q σ' H') X.xe s
end
section
variable {X : Cx} {pos : Pos} {a b c e : Expr} {ta tb tc te : TE}
theorem pvg (i : Nat) {x : Str} (hN : X.N[i]? = some x := by rfl) (hv : Vis X.env.scope x := by first | exact Or.inl rfl | exact Or.inr (Or.inl rfl) | exact Or.inr (Or.inr rfl)) (hd : (x == ("__debug__" : Str)) = false := by decide)
    (hcd : (x == ("__classdict__" : Str)) = false := by decide) : PEg X (.Name x pos) (dVar i) := by
  refine ⟨fun pins s σ H Q I h => ?_⟩
  unfold dVar onSome at h
  cases e : nth σ i with
  | none => rw [e] at h; exact h.elim
  | some v =>
    rw [e] at h
    obtain ⟨m, hn, hl⟩ := I.loc
    obtain ⟨u, r, l⟩ := hl i x v hN (nth_ok e) hv
    have fin : s.gens = s.gens ∧ EP X pins σ Q u s := ⟨rfl, v, H, I, r, h⟩
    rcases l with ⟨hk, hm⟩ | ⟨hk, c, hc, hcell⟩
    · exact wpAny_Name (wpAny_loadName_local I.ok.kind hk hn hm fin) hd
    · rcases hk with hk | hk
      · exact wpAny_Name (wpAny_loadName_cell I.ok.kind hk hc hcell fin) hd
      · exact wpAny_Name (wpAny_loadName_free I.ok.kind hk hc hcell fin hcd) hd
theorem peg_int {i : Int} {j : Nat} : PEg X (.Constant (.int i) j pos) (tC (.int i)) := ⟨fun _ _ _ H _ I h => wpAny_Constant_int ⟨rfl, .int i, H, I.tok _, ⟨_, rfl⟩, h⟩⟩
theorem og_add {r : R2} (e : r = oI0 (fun i j => i + j)) : OpRg X (binaryOp .Add) r := fun pins s σ H x y v u Q I rx ry q => by
  subst e
  cases x <;> cases y <;> try exact q.elim
  rename_i i j
  obtain ⟨t, rfl⟩ := rx
  obtain ⟨t', rfl⟩ := ry
  exact add_int ⟨rfl, .int (i + j), H, I.tok _, ⟨_, rfl⟩, q⟩
theorem og_sub : OpRg X (binaryOp .Sub) oSub := fun pins s σ H x y v u Q I rx ry q => by
  cases x <;> cases y <;> try exact q.elim
  rename_i i j
  obtain ⟨t, rfl⟩ := rx
  obtain ⟨t', rfl⟩ := ry
  exact PyProof.Rows.sub_int ⟨rfl, .int (i - j), H, I.tok _, ⟨_, rfl⟩, q⟩
theorem og_lt : OpRg X (compareOp .Lt) oLt := fun pins s σ H x y v u Q I rx ry q => by
  cases x <;> cases y <;> try exact q.elim
  rename_i i j
  obtain ⟨t, rfl⟩ := rx
  obtain ⟨t', rfl⟩ := ry
  exact lt_int ⟨rfl, .bl (decide (i < j)), H, I, rfl, q⟩
theorem og_le : OpRg X (compareOp .LtE) oLe := fun pins s σ H x y v u Q I rx ry q => by
  cases x <;> cases y <;> try exact q.elim
  rename_i i j
  obtain ⟨t, rfl⟩ := rx
  obtain ⟨t', rfl⟩ := ry
  exact le_int ⟨rfl, .bl (decide (i ≤ j)), H, I, rfl, q⟩
theorem peg_op {op : Operator} {r : R2} (ho : OpRg X (binaryOp op) r) (ha : PEg X a ta) (hb : PEg X b tb) : PEg X (.BinOp a op b pos) (tOp r ta tb) := by
  refine ⟨fun pins s σ H Q I h => ?_⟩
  refine wpAny_BinOp (thn (ha.run pins s σ H _ I h) fun v s1 ⟨g1, x, H1, I1, r1, q1⟩ => thn (hb.run pins s1 σ H1 _ I1 q1) fun u s2 ⟨g2, y, H2, I2, r2, q2⟩ => thn (ho pins s2 σ H2 x y v u Q I2 r1 r2 q2) fun w s3 ⟨g3, q3⟩ => ⟨?_, q3⟩)
  rw [g3, g2, g1]
theorem ptg_chain {op op' : CmpOp} {r r' : R2} (ho : OpRg X (compareOp op) r) (ho' : OpRg X (compareOp op') r') (ha : PEg X a ta) (hb : PEg X b tb) (hc : PEg X c tc)
    (hm : lastMarks [op, op'] [b, c] = false := by with_unfolding_all rfl) : PTg X (.Compare a [op, op'] [b, c] pos) (dChainT r r' ta tb tc) := by
  refine ⟨fun pins s σ H Q I h => ?_⟩
  refine isTrue_chain (thn (ha.run pins s σ H _ I h) fun v s1 ⟨g1, x, H1, I1, r1, q1⟩ => test_link (thn (hb.run pins s1 σ H1 _ I1 q1) fun u s2 ⟨g2, y, H2, I2, r2, q2⟩ =>
    thn (ho pins s2 σ H2 x y v u _ I2 r1 r2 q2) fun d s3 ⟨g3, z, H3, I3, r3, q3⟩ => ?_)) hm
  obtain ⟨k, e, q3⟩ := isB_ex q3
  subst e
  cases r3
  have gg : s3.gens = s.gens := by rw [g3, g2, g1]
  refine wpAny_truthy_bool ?_
  cases k with
  | false => exact ite_ff ⟨gg, H3, I3, q3⟩
  | true =>
    refine ite_tt (test_last (thn (hc.run pins s3 σ H3 _ I3 q3) fun w' s4 ⟨g4, z', H4, I4, r4, q4⟩ => thn (ho' pins s4 σ H4 y z' u w' _ I4 r2 r4 q4) fun d' s5 ⟨g5, z2, H5, I5, r5, q5⟩ => ?_))
    obtain ⟨k2, e2, q5⟩ := isB_ex q5
    subst e2
    cases r5
    exact wpAny_truthy_bool ⟨by rw [g5, g4]; exact gg, H5, I5, q5⟩
theorem psg_if {sa sb : List Stmt} {tt : TT} {t u : TS} (hc : PTg X c tt) (ha : PSsg X sa t) (hb : PSsg X sb u) : PSg X (.If c sa sb pos) (dIfS tt t u) := by
  refine ⟨fun pins s σ H D I h => ?_⟩
  refine wpAny_If (thn (hc.run pins s σ H _ I h) fun d s1 ⟨g1, H1, I1, q1⟩ => ?_)
  cases d with
  | true => exact thn (ha.run pins s1 σ H1 D I1 q1) fun _ _ ⟨g2, q⟩ => ⟨g2.trans g1, q⟩
  | false => exact thn (hb.run pins s1 σ H1 D I1 q1) fun _ _ ⟨g2, q⟩ => ⟨g2.trans g1, q⟩
theorem pssg_nil : PSsg X [] tNext := ⟨fun _ _ σ H _ I h => wpAny_execs_nil ⟨rfl, σ, H, I, h⟩⟩
theorem pssg_cons {st : Stmt} {rest : List Stmt} {t u : TS} (h1 : PSg X st t) (h2 : PSsg X rest u) : PSsg X (st :: rest) (tSeq t u) := by
  refine ⟨fun pins s σ H D I h => ?_⟩
  refine wpAny_execs_cons (thn (h1.run pins s σ H { D with nx := u D } I h) fun f s1 ⟨g1, q⟩ => ?_)
  cases f with
  | next =>
    obtain ⟨σ', H', I', q⟩ := q
    exact thn (h2.run pins s1 σ' H' D I' q) fun _ _ ⟨g2, q⟩ => ⟨g2.trans g1, q⟩
  | ret v => exact ⟨g1, q⟩
  | brk => exact ⟨g1, q⟩
  | cont => exact ⟨g1, q⟩
theorem pssg_one {st : Stmt} {t : TS} (h1 : PSg X st t) : PSsg X [st] t := by
  have h2 := pssg_cons h1 (pssg_nil (X := X))
  exact ⟨fun pins s σ H D I h => h2.run pins s σ H D I h⟩
theorem pssg_stop {st : List Stmt} {t : TS} (h : PSsg X st t) : PSsg X st (stop t) := ⟨fun pins s σ H D I q => h.run pins s σ H D I q.go⟩
/-- a local name is stored -/
theorem store_g {pins : List (Addr × Obj)} {σ : L2.St} {H : Hp} {s : Shared} {i : Nat} {x : Str} {v : V} {u : Value} {Q : Unit → Shared → Prop} (I : Inv X pins σ H s) (hN : X.N.Nodup) (hi : X.N[i]? = some x) (hk : X.env.scope.names.lookup x = some .local) (r : RelV v u)
    (h : ∀ s', s'.gens = s.gens → Inv X pins (σ.set i (some v)) H s' → Q () s') : wpAny (model X.prog X.w) X.A (storeName X.env x u) Q X.xe s := by
  obtain ⟨m, hn, hl⟩ := id I.loc
  have hcls : (X.env.scope.kind == .class || (X.env.scope.kind == .module && X.env.locals != X.env.globals)) = false := by rw [I.ok.kind]; rfl
  have hiσ : i < σ.length := by rw [I.len]; exact (List.getElem?_eq_some_iff.mp hi).1
  have cne := I.cne
  refine wpAny_storeName_local hk hn (fun h' hn' hs => ?_) hcls
  obtain ⟨oL, _, _, hoL, _⟩ := id hn
  have old : ∀ q o, X.s_0.heap.get? q = some o → q ≠ X.env.locals := fun q o e => Nat.ne_of_lt (Nat.lt_of_lt_of_le (Heap.lt_size e) I.ok.above)
  have nl : ∀ q o, H q = some o → q ≠ X.env.locals := fun q o e z => by rw [z, I.free] at e; cases e
  refine h _ rfl ⟨I.ok, I.os, I.bare, ⟨fun q o e n hb hx => (hs.2 q (old q o e)).trans (I.base.keep q o e n hb hx), fun q o e n hb hx => ?_, I.base.free, fun q o e hx => ?_, I.base.tups, I.base.frzs, I.base.tbls⟩, ⟨_, hn', fun j y v' e1 e2 e3 => ?_⟩, fun y c e => ?_, I.free, I.freeC, fun p hp => ?_, fun q o e => ?_, by simpa using I.len⟩
  · obtain ⟨sl, e1⟩ := I.base.slot q o e n hb hx
    exact ⟨sl, (hs.2 q (old q o e)).trans e1⟩
  · obtain ⟨o', e1⟩ := I.base.there q o e hx
    exact ⟨o', (hs.2 q (old q o e)).trans e1⟩
  · by_cases hj : j = i
    · subst hj
      rw [hi] at e1
      cases e1
      rw [List.getElem?_set_self hiσ] at e2
      cases e2
      exact ⟨u, r, .inl ⟨hk, by simp⟩⟩
    · rw [List.getElem?_set_ne (Ne.symm hj)] at e2
      obtain ⟨u', r', q⟩ := hl j y v' e1 e2 e3
      refine ⟨u', r', q.imp (fun ⟨k, e⟩ => ⟨k, ?_⟩) fun ⟨k, c, e, z⟩ => ⟨k, c, e, z.sameBut hs (cne y c e)⟩⟩
      have : y ≠ x := fun e => hj (nodup_ix hN e1 (e ▸ hi))
      simp [this, e]
  · obtain ⟨w', z⟩ := I.cell y c e
    exact ⟨w', z.sameBut hs (cne y c e)⟩
  · obtain ⟨e, n, ne, nf, d⟩ := I.pin p hp
    exact ⟨(hs.2 p.1 ne).trans e, n, ne, nf, d⟩
  · refine (I.hok q o e).stay (fun c w' hc z => (hs.2 c ?_).trans z) (fun _ z => z) fun _ _ z => z
    rcases hc with hc | hc
    · rw [hc]; exact nl q o e
    · exact nl c _ hc
theorem psg_set {i : Nat} {x : Str} {pos' : Pos} (hN : X.N.Nodup) (hi : X.N[i]? = some x) (hx : Loc X.env.scope x) (he : PEg X e te) (hs : swapsWith e (some (.Name x pos')) pos.line X.env = pure false := by rfl) (hf : X.env.scope.names.lookup x = some .local := by rfl) :
    PSg X (.Assign [.Name x pos'] e pos) (tAsg te (gName i)) := by
  refine ⟨fun pins s σ H D I h => ?_⟩
  refine wpAny_Assign_Name (thn (he.run pins s σ H _ I h) fun v s1 ⟨g1, y, H1, I1, r1, q1⟩ => ?_) hs
  exact store_g I1 hN hi hf r1 fun s2 g2 I2 => ⟨g2.trans g1, _, H1, I2, q1⟩
theorem pgg_name {i : Nat} {x : Str} (hN : X.N.Nodup) (hi : X.N[i]? = some x) (hx : Loc X.env.scope x) (hf : X.env.scope.names.lookup x = some .local := by rfl) : PGg X (.Name x pos) (gName i) := by
  refine ⟨fun pins s σ H v u Q I r h => ?_⟩
  exact wpAny_assign_Name (store_g I hN hi hf r fun s' g' I' => ⟨g', _, H, I', h⟩)
theorem pgsg_nil : PGsg X [] gNil := by
  refine ⟨fun pins s σ H vs us Q I r h => ?_⟩
  obtain ⟨e, h⟩ := h
  subst e
  cases r
  exact assignInOrder_nil ⟨rfl, σ, H, I, h⟩
theorem pgsg_cons {es : List Expr} {t : TG} {u : TGs} (h1 : PGg X e t) (h2 : PGsg X es u)
    (hs : (assignEach (e :: es) X.env).map (·.2) = assign e X.env :: (assignEach es X.env).map (·.2) := by rfl) : PGsg X (e :: es) (gCons t u) := by
  refine ⟨fun pins s σ H vs us Q I r h => ?_⟩
  obtain ⟨v, vr, e1, h⟩ := h
  subst e1
  cases r with
  | cons r rr =>
    rw [hs]
    refine assignInOrder_cons (thn (h1.run pins s σ H _ _ _ I r h) fun _ s1 ⟨g1, σ1, H1, I1, q1⟩ => ?_)
    exact thn (h2.run pins s1 σ1 H1 _ _ Q I1 rr q1) fun _ _ ⟨g2, q⟩ => ⟨g2.trans g1, q⟩
theorem pgg_tup {es : List Expr} {k : Nat} {t : TGs} {n : Nat} (hc : X.calm = true) (h : PGsg X es t)
    (hn : (assignEach es X.env).length = n := by rfl) (hst : (assignEach es X.env).findIdx? (·.1) = none := by rfl) : PGg X (.Tuple es k pos) (gTup X.K n t) := by
  refine ⟨fun pins s σ H v u Q I r hw => ?_⟩
  obtain ⟨a, xs, e1, hq, hl, hw⟩ := hw
  subst e1
  cases r
  obtain ⟨its, rv, ht, hz⟩ := I.tuple hq
  refine assign_Tuple_tuple (I.ok.hd hc) ht (by simp [hn, ← hl, rv.length]) hst fun h' hx => ?_
  have I1 : Inv X pins σ H { s with heap := h' } := I.kept (t' := s.toks) fun b o e => hx b o (Nat.ne_of_lt (Heap.lt_size e)) e
  exact h.run pins _ σ H xs _ Q I1 (by simpa using rv) hw
end
end S
namespace S
open PySem PySem.Spec PyProof.Rows L2
/-- + of two numbers -/
def oAddI : R2 := oI0 fun i j => i + j
end S
namespace S
open PySem PySem.Spec PyProof.Rows L2 GenW
section
variable {X : Cx} {pins : List (Addr × Obj)} {σ : L2.St} {H H' : Hp} {s s' : Shared}
theorem inv_gens (I : Inv X pins σ H s) {g : Nat} {x : GenState} (hx : x.bare = true) : Inv X pins σ H (s.setGen g x) :=
  ⟨I.ok, I.os, allBare_setGen I.bare hx, I.base, I.loc, I.cell, I.free, I.freeC, I.pin, I.hok, I.len⟩
theorem stk_mem (I : Inv X pins σ H s) {q : Addr} (h : q ∉ X.fs) (h2 : q ≠ X.env.locals) : q ∉ frs X.stack := fun z => (List.mem_cons.mp (I.stkSub q z)).elim h2 h
/-- behind a run that promises for the n oldest objects -/
theorem inv_far {n : Nat} (I : Inv X pins σ H s) (hx : ∀ b, b ∉ X.ex) (hL : X.env.locals < n) (hcell : ∀ x c, X.env.cells.lookup x = some c → c < n ∧ c ∉ frs X.stack) (hp : ∀ p ∈ X.pn ++ pins, p.1 < n) (u : Un (frs X.stack) [] H H' (cut0 s.heap n) s'.heap) (os : s'.os = s.os) (hok : HOk X.prog X.w H' s'.heap) (hb : AllBare s'.gens) :
    Inv X pins σ H' s' := by
  have ne : ∀ q : Addr, q ∉ ([] : List Addr) := fun q z => by cases z
  have old : ∀ {q : Addr} {o : Obj}, X.s_0.heap.get? q = some o → q < n := fun {q o} e => Nat.lt_of_lt_of_le (Heap.lt_size e) (Nat.le_trans I.ok.above (Nat.le_of_lt hL))
  have nl : ∀ {q : Addr} {o : Obj}, X.s_0.heap.get? q = some o → q ≠ X.env.locals := fun {q o} e => Nat.ne_of_lt (Nat.lt_of_lt_of_le (Heap.lt_size e) I.ok.above)
  obtain ⟨m, ⟨oL, es, ep, hoL, hd, hr⟩, hl⟩ := id I.loc
  obtain ⟨sl, hoL'⟩ := u.any (cut0_at hL hoL) I.free (ne _)
  have cellK : ∀ x c, X.env.cells.lookup x = some c → ∀ v, s.heap.IsCell c v → s'.heap.IsCell c v := fun x c e v ⟨o, ho, hdd⟩ => ⟨o, u.keep c o (cut0_at (hcell x c e).1 ho) (I.freeC x c e) (hcell x c e).2 (ne _), hdd⟩
  refine ⟨I.ok, os.trans I.os, hb, ⟨fun q o e h1 h2 h3 => ?_, fun q o e h1 h2 h3 => ?_, fun q o e h1 h3 => ?_, fun q o e h3 => ?_, fun q xs e => u.tups q xs (I.base.tups q xs e), fun q o w e => u.frzs q o w (I.base.frzs q o w e), fun q ps e => ?_⟩, ⟨m, ⟨_, es, ep, hoL', hd, hr⟩, fun i x v e1 e2 e3 => ?_⟩, fun x c e => ?_, ?_, fun x c e => ?_, fun p h => ?_, hok, I.len⟩
  · exact u.keep q o (cut0_at (old e) (I.base.keep q o e h1 h2 h3)) (I.base.free q o e h1 h3) (stk_mem I h2 (nl e)) (ne _)
  · obtain ⟨sl1, e1⟩ := I.base.slot q o e h1 h2 h3
    obtain ⟨sl2, e2⟩ := u.any (cut0_at (old e) e1) (I.base.free q o e h1 h3) (ne _)
    exact ⟨sl2, e2⟩
  · obtain ⟨o', e1⟩ := I.base.there q o e h3
    exact u.free q o' (cut0_at (old e) e1) (I.base.free q o e h1 h3) (ne _)
  · obtain ⟨o', e1⟩ := I.base.there q o e h3
    exact u.there q o' (cut0_at (old e) e1) (ne _)
  · obtain ⟨m1, e1⟩ := I.base.tbls q ps e
    obtain ⟨m2, e2⟩ := u.tbls q _ e1
    exact ⟨m1 ++ m2, by rw [e2, Array.append_assoc]⟩
  · obtain ⟨u', r, l⟩ := hl i x v e1 e2 e3
    exact ⟨u', r, l.imp (fun z => z) fun ⟨k, c, e, z⟩ => ⟨k, c, e, cellK x c e _ z⟩⟩
  · obtain ⟨v, z⟩ := I.cell x c e
    exact ⟨v, cellK x c e v z⟩
  · exact u.free _ oL (cut0_at hL hoL) I.free (ne _)
  · obtain ⟨v, o, ho, _⟩ := I.cell x c e
    exact u.free c o (cut0_at (hcell x c e).1 ho) (I.freeC x c e) (ne _)
  · obtain ⟨k1, k2, k3, k4, k5⟩ := I.pin p h
    exact ⟨u.keep p.1 p.2 (cut0_at (hp p h) k1) k2 (stk_mem I k4 k3) (ne _), u.free p.1 p.2 (cut0_at (hp p h) k1) k2 (ne _), k3, k4, k5⟩
end
/-- a generator that a loop walks -/
abbrev TGenF := TurnK → (List V → Hp → Prop) → L2.St → Hp → Prop
structure PGenF (X : Cx) (k : Nat) (e : Expr) (tg : TGenF) : Prop where
  run : ∀ (pins : List (Addr × Obj)) (s : Shared) (σ : L2.St) (H : Hp) (Kc : TurnK) (Q : List V → Hp → Prop), Inv X pins σ H s → tg Kc Q σ H →
    wpAny (model X.prog X.w) X.A (eval e X.env) (fun u s' => ∃ H1 sc, Inv X pins σ H1 sc ∧ GMadeF X.prog X.w X.K X.mg X.base k X.stack H1 sc Kc Q u s') X.xe s
/-- o.m(), o an instance with slots -/
def tMethFS (K : Frag) (c : Str) (sp : SpF) (ta : TE) : TGenF := fun Kc Q σ H => ta σ H fun x H1 => match x with
  | .ref a => IsO K H1 c a (sp [.ref a] H1 Kc Q)
  | _ => False
theorem pgenF_meth0 {X : Cx} {k : Nat} {g : Addr} {sp : SpF} {c m : Str} {pos apos : Pos} {o : Expr} {ta : TE} {pl : Sem Bool} (hc : SlX.SCls X.K (He.ga X.K c)) (hm : Meth X.K (He.ga X.K c) m g) (F : GFF X.prog X.w X.K X.mg X.base k g sp) (hr : Room k X.A) (he : PE X o ta)
    (ht : eval (.Call (.Attribute o m apos) [] [] pos) X.env = (do
      let ov ← eval o X.env
      standAt apos.atName
      let (f, first) ← holding [ov] (getMethod ov m pl)
      callWith pos f first (backTo pos (starEach [] X.env)) (backToKw pos (keywordEach [] X.env))) := by rfl) :
    PGenF X k (.Call (.Attribute o m apos) [] [] pos) (tMethFS X.K c sp ta) := by
  refine ⟨fun pins s σ H Kc Q I h => ?_⟩
  refine PySem.W.methodCall_KW (pl := pl) (thn (he.run pins s σ H _ I h) fun u s1 ⟨x, H1, I1, rx, q⟩ => ?_) ht
  cases x <;> try exact q.elim
  cases rx
  obtain ⟨⟨dx, vs, hsl⟩, q⟩ := q
  refine SlX.getmethsl_ok I1 hsl hc hm ?_
  refine PySem.W.callWith_K0 (first := [.ref _]) I1.kIn hm.kp (wpAny_call (codeAny_mono (F.run X.A X.stack s1 H1 [.ref _] [.ref _] Kc Q hr I1.env0 (.cons rfl .nil) q) fun r s2 hq => ?_))
  cases r with
  | error e => exact False.elim hq
  | ok fl =>
    cases fl with
    | ret u => exact ⟨H1, s1, I1, hq⟩
    | next => exact False.elim hq
    | brk => exact False.elim hq
    | cont => exact False.elim hq
/-- the loop: W tells the slots by what was handed out -/
structure LpF (tg : TGenF) (g : TG) (tb : TS) (D : Ends) (σ : L2.St) (H : Hp) : Prop where
  ex : ∃ W : List V → L2.St → Prop, W [] σ ∧ tg (fun ys x H1 post => ∀ σ1, W ys σ1 → g x σ1 H1 fun σ2 H2 => tb { D with nx := fun σ3 H3 => W (ys ++ [x]) σ3 ∧ post H3, ct := fun σ3 H3 => W (ys ++ [x]) σ3 ∧ post H3, bk := D.nx } σ2 H2) (fun ys H1 => ∀ σ1, W ys σ1 → D.nx σ1 H1) σ H
def dForF (tg : TGenF) (g : TG) (tb : TS) : TS := fun D σ H => LpF tg g tb D σ H
theorem ps_forF {X : Cx} {k : Nat} {tgt iter : Expr} {body : List Stmt} {tg : TGenF} {g : TG} {tb : TS} {pos : Pos} (hp : PassesOwn (model X.prog X.w) X.A X.env X.xe) (hc : X.calm = true) (hi : PGenF X k iter tg) (hr : Room (k + 1) X.A) (hg : PGg X tgt g) (hb : PSsg X body tb) (hnc : ∀ x, X.env.cells.lookup x = none)
    (hst : X.stack = X.env :: X.outer := by rfl) (hfr : X.env.frame = some X.env.locals := by rfl) (hex : X.ex = [] := by rfl) (hs : ∀ x, foldedSetIterable iter X.env x = pure x := by intro _; rfl) : PS X (.For tgt iter body [] pos) (dForF tg g tb) := by
  refine ⟨fun pins s σ H D I h => ?_⟩
  obtain ⟨W, w0, h⟩ := h.ex
  refine wpAny_For (thn (hi.run pins s σ H _ _ I h) fun u s1 ⟨H1, sc, I1, hG⟩ => ?_) hs
  obtain ⟨a, gn, c, rfl, ha, hgen, hgs, hos, hbare, hlim, hkp, wake⟩ := hG
  refine wpAny_pyIter_gen hgen ?_
  have hx : ∀ b, b ∉ X.ex := fun b z => by rw [hex] at z; cases z
  have mF : ∀ q, q ∈ X.env.locals :: X.fs → q ∈ frs X.stack := fun q hq => by
    rw [hst]
    unfold frs
    rw [List.filterMap_cons, hfr]
    exact hq
  have hL : X.env.locals < sc.heap.objs.size := I1.lt
  have hcell : ∀ x c, X.env.cells.lookup x = some c → c < sc.heap.objs.size ∧ c ∉ frs X.stack := fun x c e => by rw [hnc] at e; cases e
  have hpn : ∀ p ∈ X.pn ++ pins, p.1 < sc.heap.objs.size := fun p hp => Heap.lt_size (I1.pin p hp).1
  have I2 : Inv X pins σ H1 s1 := I1.call' (ch := []) hos (Un.kept hkp) (I1.hok.kept hkp) hbare fun b z => by simp at z
  have hr1 : Room k X.A.in1 := hr.in1
  have hdp : X.A.depth < recursionLimit := by have := hr.dp; omega
  refine codeAny_forLoop_any (fun n s' => ∃ ys σ' H' gs, Inv X pins σ' H' s' ∧ W ys σ' ∧ s'.heap.IsGen a gn ∧ s'.gens[gn]? = some gs ∧
    gs.Goes (model X.prog X.w) X.A.in1 (REnF X.prog X.w X.stack sc.heap.objs.size (fun ys s H => ∃ σ, Inv X pins σ H s ∧ W ys σ) (fun ys H1 => ∀ σ1, W ys σ1 → D.nx σ1 H1))
      (YItF X.prog X.w X.base X.stack sc.heap.objs.size a gn (fun ys s H => ∃ σ, Inv X pins σ H s ∧ W ys σ) (fun ys x H1 post => ∀ σ1, W ys σ1 → g x σ1 H1 fun σ2 H2 => tb { D with nx := fun σ3 H3 => W (ys ++ [x]) σ3 ∧ post H3, ct := fun σ3 H3 => W (ys ++ [x]) σ3 ∧ post H3, bk := D.nx } σ2 H2)) n (.send .none) (s'.setGen gn .running)) ?_ sizeLine ?_
  · rintro n s3 ⟨ys, σ3, H3, gs, I3, w3, hg3, hgs3, hgo⟩
    have hgl : gn < s3.gens.size := (Array.getElem?_eq_some_iff.mp hgs3).1
    refine wpAny_gsz (n := gn + 1) hgl (next_genG (I3.ok.hd hc) I3.nolimit hdp hg3 hgs3 hgo (fun v s4 gs' hbr hy => ?_) (fun s4 hf h' hk => ?_) fun e s4 he => he.elim)
    · intro hsz
      obtain ⟨ys', x, H0, H4, gp, post, hn, rv, ⟨σ0, J0, w0'⟩, os4, b4, lim4, gen4, un4, hok4, hgp, ⟨ao, hao⟩, hk, hw⟩ := hy
      have sz4 : gn < (s4.setGen gn gs').gens.size := hsz
      have J1 : Inv X pins σ0 H4 s4 := inv_far J0 hx hL hcell hpn un4 os4 hok4 b4
      have J2 : Inv X pins σ0 H4 (s4.setGen gn gs') := inv_gens J1 hbr
      have J3 : Inv X (pins ++ gp) σ0 H4 (s4.setGen gn gs') := J2.pins_of fun p hp => by
        rcases List.mem_append.mp hp with z | z
        · exact J2.pin p (List.mem_append_right _ z)
        · obtain ⟨q1, q2, q3, q4⟩ := hgp p z
          exact ⟨q1, q2, fun e => q3 (mF _ (by rw [e]; exact List.mem_cons_self)), fun e => q3 (mF _ (List.mem_cons_of_mem _ e)), q4⟩
      obtain ⟨o, nm, qn, ho, hcls, hdat, hsl⟩ := id gen4
      refine go_of (n := "generator") (by exact ho) hcls hdat (by decide) ?_
      refine wpAny_passesOwn hp (thn (hg.run _ _ σ0 H4 x v _ J3 rv (hk σ0 w0')) fun _ s5 ⟨g5, σ5, H5, I5, q5⟩ => ?_)
      refine wpAny_passesOwn hp (thn (hb.run _ s5 σ5 H5 _ I5 q5) fun f s6 ⟨g6, q6⟩ => ?_)
      have gg : s6.gens = (s4.setGen gn gs').gens := g6.trans g5
      have again : ∀ {σ7 : L2.St} {H7 : Hp}, Inv X (pins ++ gp) σ7 H7 s6 → W (ys' ++ [x]) σ7 ∧ post H7 → ∃ m, m < n ∧ ∃ ys σ' H' gs, Inv X pins σ' H' s6 ∧ W ys σ' ∧ s6.heap.IsGen a gn ∧ s6.gens[gn]? = some gs ∧
          gs.Goes (model X.prog X.w) X.A.in1 (REnF X.prog X.w X.stack sc.heap.objs.size (fun ys s H => ∃ σ, Inv X pins σ H s ∧ W ys σ) (fun ys H1 => ∀ σ1, W ys σ1 → D.nx σ1 H1))
            (YItF X.prog X.w X.base X.stack sc.heap.objs.size a gn (fun ys s H => ∃ σ, Inv X pins σ H s ∧ W ys σ) (fun ys x H1 post => ∀ σ1, W ys σ1 → g x σ1 H1 fun σ2 H2 => tb { D with nx := fun σ3 H3 => W (ys ++ [x]) σ3 ∧ post H3, ct := fun σ3 H3 => W (ys ++ [x]) σ3 ∧ post H3, bk := D.nx } σ2 H2)) m (.send .none) (s6.setGen gn .running) := by
        intro σ7 H7 I7 ⟨w7, p7⟩
        have I8 : Inv X pins σ7 H7 s6 := I7.unpinned
        have I9 : Inv X pins σ7 H7 (s6.setGen gn .running) := inv_gens I8 rfl
        have pin : ∀ p ∈ gp, s6.heap.get? p.1 = some p.2 ∧ H7 p.1 = none := fun p hp => by
          obtain ⟨k1, k2, _⟩ := I7.pin p (List.mem_append_right _ (List.mem_append_right _ hp))
          exact ⟨k1, k2⟩
        have e0 := I9.env0
        have wk : Wok0 X.prog X.w X.base X.stack gp (s6.setGen gn .running) H7 := ⟨e0.bare, e0.bs, e0.bsz, e0.funs, e0.frf, e0.hok, pin⟩
        have fin := hw (s6.setGen gn .running) H7 wk ⟨σ7, I9, w7⟩ p7
        cases n with
        | zero => exact fin.elim
        | succ m =>
          refine ⟨m, Nat.lt_succ_self _, ys' ++ [x], σ7, H7, gs', I8, w7, ?_, ?_, fin⟩
          · have k1 := (pin (a, ao) hao).1
            have k2 := (hgp (a, ao) hao).1
            have k2 : s4.heap.get? a = some ao := k2
            rw [ho] at k2
            cases k2
            exact ⟨_, nm, qn, k1, hcls, hdat, hsl⟩
          · rw [gg]
            exact setGen_at (by rw [setGen_size] at sz4; exact sz4)
      cases f with
      | next => obtain ⟨σ7, H7, I7, n7⟩ := q6; exact again I7 n7
      | cont => obtain ⟨σ7, H7, I7, n7⟩ := q6; exact again I7 n7
      | brk => obtain ⟨σ7, H7, I7, q7⟩ := q6; exact ⟨σ7, H7, I7.unpinned, q7⟩
      | ret v => obtain ⟨x7, σ7, H7, I7, r7, q7⟩ := q6; exact ⟨x7, σ7, H7, I7.unpinned, r7, q7⟩
    · intro hsz
      obtain ⟨ys', H0, H4, ⟨σ0, J0, w0'⟩, os4, b4, un4, hok4, hQ⟩ := hf
      have J1 : Inv X pins σ0 H4 s4 := inv_far J0 hx hL hcell hpn un4 os4 hok4 b4
      have J2 : Inv X pins σ0 H4 (s4.setGen gn .finished) := inv_gens J1 rfl
      exact wpAny_execs_nil ⟨σ0, H4, J2.kept (h' := h') (t' := s4.toks) hk, hQ σ0 w0'⟩
  · refine ⟨[], σ, H1, .fresh c, I2, w0, hgen, hgs, rfl, ?_⟩
    have I3 : Inv X pins σ H1 (s1.setGen gn .running) := inv_gens I2 rfl
    refine wake X.A.in1 _ (s1.setGen gn .running) hr1 I1.ok.frames ?_ rfl rfl ⟨σ, I3, w0⟩
    have e0 := I3.env0
    exact ⟨e0.frames, e0.mod, e0.bs, e0.bsz, e0.funs, e0.frf, e0.hok, e0.bare⟩
end S
namespace S
open PySem PySem.Spec PyProof.Rows L2
end S
namespace S
open PySem PySem.Spec PyProof.Rows L2
open Sem (wp)
/-! ### what is gone stays gone -/
/-! ### a tuple's iterator -/
section
variable {X : Cx} {k : Nat} {g : Addr} {sp : Sp} {c : Str} {ups fs : List Str} {a : Addr}
end
end S
namespace S
open PySem PySem.Spec PyProof.Rows L2
open Sem (wp)
section
variable {X : Cx} {k : Nat} {g : Addr} {sp : Sp} {c : Str} {ups fs : List Str} {a : Addr}
end
end S
namespace S
open PySem PySem.Spec PyProof.Rows L2
end S
namespace S
open PySem PySem.Spec PyProof.Rows L2
abbrev Rw : Type := V × List Int
def leR (p q : Rw) : Bool := decide (p.2 ≤ q.2)
theorem tupLe : PySem.W.dataLe false (fun b : Rw => .tuple (b.2.map .int)) = leR := by
  funext p q
  show (!PySem.W.dataLt (.tuple (q.2.map .int)) (.tuple (p.2.map .int))) = _
  rw [PySem.W.dataLt_tuple]
  show (!PySem.W.rowLt (q.2.map .int) (p.2.map .int)) = _
  rw [PySem.W.dataLt_ints]
  unfold leR
  by_cases h : q.2 < p.2
  · have h' : ¬ p.2 ≤ q.2 := fun r => List.not_lt.mpr r h
    simp [h, h']
  · have h' : p.2 ≤ q.2 := List.not_lt.mp h
    simp [h, h']
theorem each_of : ∀ {bs : List Rw} {us : List Value}, Vals (bs.map (·.1)) us → PySem.W.EachIs (fun u (b : Rw) => L2.RelV b.1 u) us bs
  | [], _, .nil => .nil
  | _ :: _, _, .cons h t => .cons h (each_of t)
theorem of_each : ∀ {bs : List Rw} {us : List Value}, PySem.W.EachIs (fun u (b : Rw) => L2.RelV b.1 u) us bs → Vals (bs.map (·.1)) us
  | [], _, .nil => .nil
  | _ :: _, _, .cons h t => .cons h (of_each t)
theorem dpAll_ints {K : Frag} {H : Hp} : ∀ ns : List Int, DpAll K H (ns.map V.int) (ns.map PyData.int)
  | [] => .nil
  | n :: ns => .cons (.int n) (dpAll_ints ns)
theorem leR_trans (a b c : Rw) (h1 : leR a b = true) (h2 : leR b c = true) : leR a c = true := decide_eq_true (List.le_trans (of_decide_eq_true h1) (of_decide_eq_true h2))
theorem leR_total (a b : Rw) : (leR a b || leR b a) = true := by
  rcases List.le_total a.2 b.2 with h | h
  · simp [leR, h]
  · simp [leR, h]
structure SrtT (K : Frag) (H : Hp) (p : Addr) (Q : VK) : Prop where
  ex : Srt K H p Q ∨ ∃ bs : List Rw, SqL K H p (bs.map (·.1)) ∧ (∀ b ∈ bs, b.2 ≠ [] ∧ ∃ t, b.1 = .ref t ∧ SqT K H t (b.2.map V.int)) ∧
    ∀ (cs : List Rw) (q : Addr), cs.Perm bs → cs.Pairwise (fun p q => p.2 ≤ q.2) → H q = none → Q (.ref q) (upd H q (.lst (cs.map (·.1))))
def cSortedT (K : Frag) : List V → Hp → VK → Prop := fun xs H Q => match xs with
  | [.ref p] => SrtT K H p Q
  | _ => False
theorem c_sortedT {X : Cx} (hu : X.A.units + 64 < cLine) : CallR X (.builtin "sorted") (cSortedT X.K) := by
  intro pins s σ H xs us Q I r h
  match xs, h with
  | [.ref p], ⟨h⟩ =>
  rcases h with h | ⟨bs, hs, hb, q⟩
  · exact c_sorted pins s σ H [.ref p] us Q I r h
  obtain ⟨its, rv, hl, hz⟩ := I.list hs
  obtain ⟨u, rfl, ru⟩ := r.one
  cases ru
  rw [List.length_map] at hz
  have lv := rv.length
  rw [List.length_map] at lv
  have er : PySem.W.EachIs (fun v (b : Rw) => ∃ as, Reads s.heap v (.tuple (b.2.map .int)) as) its bs := by
    have e := each_of rv
    have go : ∀ {us : List Value} {cs : List Rw}, PySem.W.EachIs (fun u (b : Rw) => L2.RelV b.1 u) us cs → (∀ b ∈ cs, b ∈ bs) → PySem.W.EachIs (fun v (b : Rw) => ∃ as, Reads s.heap v (.tuple (b.2.map .int)) as) us cs := by
      intro us cs e
      induction e with
      | nil => exact fun _ => .nil
      | cons h t ih =>
        intro hm
        refine .cons ?_ (ih fun b hb => hm b (List.mem_cons_of_mem _ hb))
        obtain ⟨_, t, et, ht⟩ := hb _ (hm _ (List.mem_cons_self ..))
        exact Dp.reads I _ _ _ (by rw [et]; exact .tup ht (dpAll_ints _)) h
    exact go e fun _ h => h
  refine PySem.W.sorted_data (enc := fun b : Rw => .tuple (b.2.map .int)) hl.isList (each_of rv) er (PySem.W.AllAlike.of fun b b' => ?_) (.inl fun d hd => ?_) hz (fun b hb => ?_) fun out h1 h2 => ?_
  · have := PySem.W.alike_ints b.2 b'.2
    simpa [PySem.W.alike] using this
  · obtain ⟨b, hm, rfl⟩ := List.mem_map.mp hd
    obtain ⟨ne, _⟩ := hb b hm
    match hbb : b.2 with
    | [] => exact absurd hbb ne
    | x :: r => exact ⟨.int x, r.map .int, rfl⟩
  · have hd : (PyData.tuple (b.2.map .int)).depth ≤ 8 := by
      simp only [PyData.depth, PySem.W.depth_ints]
      omega
    omega
  · rw [tupLe] at h2
    obtain ⟨ep, he'⟩ := PyProof.Rows.sortedAll_at s.heap its out.toArray
    have hp := List.mergeSort_perm bs leR
    have hlen : ((bs.mergeSort leR).map (·.1)).length ≤ sizeLine := by
      rw [List.length_map, hp.length_eq]
      exact hz
    refine ⟨.ref _, upd H (s.heap.objs.size + 1) (.lst ((bs.mergeSort leR).map (·.1))), I.laid (t' := s.toks) (fun _ _ => PyProof.Rows.sortedAll_old) (Nat.le_succ _) ⟨hlen, out, ep, of_each h2, he'⟩, rfl, q _ _ hp ?_ (I.hok.fresh (Nat.le_succ _))⟩
    exact (List.pairwise_mergeSort leR_trans leR_total bs).imp fun h => of_decide_eq_true h
end S
namespace S
open PySem PySem.Spec PyProof.Rows L2
theorem u80 {k : Nat} {A : Around} (r : Room k A) : A.units + 80 < cLine := by have := r.un; omega
structure IdxT (K : Frag) (x : V) (xs : List V) (H : Hp) (Q : VK) : Prop where
  ex : rIndexD K x xs H Q
def mIdx (K : Frag) : V → List V → Hp → VK → Prop := fun x xs H Q => IdxT K x xs H Q
theorem m_idx {X : Cx} (hu : X.A.units + 80 < cLine) : MtR X "list.index" (mIdx X.K) := fun pins s σ H x xs v us Q I rx rxs h => mt_indexD (by omega) pins s σ H x xs v us Q I rx rxs h.ex
end S
namespace S
open PySem PySem.Spec PyProof.Rows L2
/-! ### a text walked -/
structure TxR (x : Str) (H : Hp) (R : It → Hp → Prop) : Prop where
  go : R (Its x) H
def iTxt (te : TE) : TI := fun σ H R => te σ H fun v H1 => match v with
  | .str x => TxR x H1 R
  | _ => False
theorem pi_txt {X : Cx} {tg e : Expr} {te : TE} (he : PE X e te) : PI X tg e (iTxt te) := by
  refine ⟨fun pins s σ H R I h => ?_⟩
  refine thn (he.run pins s σ H _ I h) fun v s1 ⟨y, H1, I1, r1, q⟩ => ?_
  cases y <;> try exact q.elim
  rename_i x
  obtain ⟨t, rfl⟩ := r1
  cases ha : x.cps.all (· < 128)
  · exact wpAny_pyIter_wide ha (pi_one (tk := s1.toks) I1 _ (turn_str _ x t "str_iterator" (.inr rfl)) ⟨_, Heap.get?_push_size _ rfl, rfl, rfl⟩ q.go)
  · exact wpAny_pyIter_ascii ha (pi_one (tk := s1.toks) I1 _ (turn_str _ x t "str_ascii_iterator" (.inl rfl)) ⟨_, Heap.get?_push_size _ rfl, rfl, rfl⟩ q.go)
theorem for_txt {x : Str} {g : TG} {tb : TS} {D : L2.Ends} {σ : L2.St} {H : Hp} (Pv : Nat → L2.St → Hp → Prop) (h0 : Pv 0 σ H)
    (hs : ∀ i c σ H, x.cps[i]? = some c → Pv i σ H → g (.str ⟨#[c]⟩) σ H fun σ2 H2 => tb { D with nx := Pv (i + 1), ct := Pv (i + 1), bk := D.nx } σ2 H2) (hd : ∀ σ H, Pv x.cps.size σ H → D.nx σ H) :
    TxR x H (LoopR D g tb σ) := by
  refine ⟨⟨fun i m σ H => m = x.cps.size - i ∧ i ≤ x.cps.size ∧ Pv i σ H, ⟨x.cps.size, by simp, Nat.zero_le _, h0⟩, ?_⟩⟩
  rintro i m σ H ⟨rfl, hi, p⟩
  by_cases hlt : i < x.cps.size
  · refine .inr ⟨hlt, Pv (i + 1), fun σ' H' p' => ⟨x.cps.size - (i + 1), by omega, rfl, hlt, p'⟩, fun y H' hy => ?_⟩
    obtain ⟨rfl, c, hc, rfl⟩ := hy
    exact hs i c σ _ hc p
  · have e : i = x.cps.size := by omega
    subst e
    exact .inl ⟨Nat.le_refl _, hd σ H p⟩
/-! ### sorted(set(..)) of a list or a tuple -/
section
variable {P : Program} {w : World} {A : Around} {E : Value → Shared → Prop} {s : Shared}
end
section
variable {X : Cx}
end
/-! ### except clauses without a name -/
end S
namespace S
open PySem PySem.Spec PyProof.Rows L2
structure NinS (x : V) (z : Str) (H : Hp) (Q : VK) : Prop where
  ex : ∃ c : Nat, x = .str ⟨#[c]⟩ ∧ Q (.bl (!decide (c ∈ z.cps.toList))) H
def oNinT (K : Frag) : R2 := fun x y H Q => match y with
  | .str z => NinS x z H Q
  | y => oNin K x y H Q
theorem op_ninT {X : Cx} : OpR X (compareOp .NotIn) (oNinT X.K) := by
  intro pins s σ H x y v u Q I rx ry q
  cases y with
  | str z =>
    have q : NinS x z H Q := q
    obtain ⟨c, rfl, q2⟩ := q.ex
    exact op_notIn_sign pins s σ H _ _ v u Q I rx ry ⟨c, z, rfl, rfl, q2⟩
  | _ => exact o_nin pins s σ H x _ v u Q I rx ry q
end S
namespace S
open PySem PySem.Spec PyProof.Rows L2
end S
namespace S
open PySem PySem.Spec PyProof.Rows L2
end S
namespace S
open PySem PySem.Spec PyProof.Rows L2
theorem pe_gstr {X : Cx} {x z : Str} {pos : Pos} (hg : Gl X x) (hm : ∃ t, X.mg x = some (.str z t)) (hd : (x == ("__debug__" : Str)) = false := by decide) : PE X (.Name x pos) (tC (.str z)) := by
  obtain ⟨t, e⟩ := hm
  exact pe_glob hg e ⟨t, rfl⟩ hd
theorem pe_gint {X : Cx} {x : Str} {i : Int} {pos : Pos} (hg : Gl X x) (hm : ∃ t, X.mg x = some (.int i t)) (hd : (x == ("__debug__" : Str)) = false := by decide) : PE X (.Name x pos) (tC (.int i)) := by
  obtain ⟨t, e⟩ := hm
  exact pe_glob hg e ⟨t, rfl⟩ hd
end S
namespace S
open PySem PySem.Spec PyProof.Rows L2
/-- the second loop of a comprehension whose list stands at D -/
def Lc2In (D : Addr) (g1 : TG) (tt1 : TT) (te : TE) (vs1 : List Nat) (σ2 : L2.St) (Nx : Hp → Prop) (J1 : It) (H4 : Hp) : Prop := ∃ W1 : Nat → Nat → Hp → Prop, (∃ m, W1 0 m H4) ∧ ∀ j k H, W1 j k H →
  (J1.stop j H ∧ Nx H) ∨ (J1.go j H ∧ ∃ Nx1 : Hp → Prop, (∀ H', Nx1 H' → ∃ k', k' < k ∧ W1 (j + 1) k' H') ∧ ∀ x H', J1.yld j H x H' → g1 x (wipe σ2 vs1) H' fun σ3 H5 => wipe σ3 vs1 = wipe σ2 vs1 ∧ tt1 σ3 H5 fun b H6 =>
    if b = true then te σ3 H6 fun y H7 => ∃ acc, H7 D = some (.lst acc) ∧ acc.length < sizeLine ∧ Nx1 (upd H7 D (.lst (acc ++ [y]))) else Nx1 H6)
def Lc2Go (g : TG) (tt : TT) (wi1 : TI) (g1 : TG) (tt1 : TT) (te : TE) (vs vs1 : List Nat) (σ : L2.St) (Q : VK) (J : It) (H1 : Hp) : Prop :=
  ∀ D, H1 D = none → ∃ W : Nat → Nat → Hp → Prop, (∃ m, W 0 m (upd H1 D (.lst []))) ∧ ∀ i m H, W i m H →
    (J.stop i H ∧ Q (.ref D) H) ∨ (J.go i H ∧ ∃ Nx : Hp → Prop, (∀ H', Nx H' → ∃ m', m' < m ∧ W (i + 1) m' H') ∧ ∀ x H', J.yld i H x H' → g x (wipe σ vs) H' fun σ2 H2 => wipe σ2 vs = wipe σ vs ∧ tt σ2 H2 fun b H3 =>
      if b = true then wi1 σ2 H3 (Wr (Lc2In D g1 tt1 te vs1 σ2 Nx)) else Nx H3)
def dLc2 (wi : TI) (g : TG) (tt : TT) (wi1 : TI) (g1 : TG) (tt1 : TT) (te : TE) (vs vs1 : List Nat) : TE := fun σ H Q => wi σ H (Wr (Lc2Go g tt wi1 g1 tt1 te vs vs1 σ Q))
section
variable {X : Cx} {elt tg iter tg1 iter1 : Expr} {ifs ifs1 : List Expr} {scope : Scope} {own : List (Str × Nat)} {vs1 : List Nat} {pos spos : Pos} {wi wi1 : TI} {g g1 : TG} {tt tt1 : TT} {te : TE}
theorem pe_lc2 (hc : X.calm = true) (hN : X.N.Nodup) (hi : PI X tg iter wi) (ok : BlkOk X.N X.env.scope scope own) (hv : ∀ i ∈ vs1, i ∈ own.map (·.2))
    (hg : ∀ (s : Shared) (H : Hp) (C : Addr) (cl : List (Str × Addr)) (fp : List Addr), PG (X.blk s H scope (compEnvC scope cl C X.env) fp) tg g) (ht : ∀ (s : Shared) (H : Hp) (C : Addr) (cl : List (Str × Addr)) (fp : List Addr), PTs (X.blk s H scope (compEnvC scope cl C X.env) fp) ifs tt)
    (hi1 : ∀ (s : Shared) (H : Hp) (C : Addr) (cl : List (Str × Addr)) (fp : List Addr), PI (X.blk s H scope (compEnvC scope cl C X.env) fp) tg1 iter1 wi1)
    (hg1 : ∀ (s : Shared) (H : Hp) (C : Addr) (cl : List (Str × Addr)) (fp : List Addr), PG (X.blk s H scope (compEnvC scope cl C X.env) fp) tg1 g1) (ht1 : ∀ (s : Shared) (H : Hp) (C : Addr) (cl : List (Str × Addr)) (fp : List Addr), PTs (X.blk s H scope (compEnvC scope cl C X.env) fp) ifs1 tt1)
    (he : ∀ (s : Shared) (H : Hp) (C : Addr) (cl : List (Str × Addr)) (fp : List Addr), PE (X.blk s H scope (compEnvC scope cl C X.env) fp) elt te) (hs : ∀ x, foldedSetIterable iter X.env x = pure x := by intro _; rfl) (hs1 : ∀ env x, foldedSetIterable iter1 env x = pure x := by intro _ _; rfl) :
    PE X (.ListComp elt [⟨tg, iter, ifs, 0⟩, ⟨tg1, iter1, ifs1, 0⟩] scope pos) (dLc2 wi g tt wi1 g1 tt1 te (own.map (·.2)) vs1) := L2.pe_lc2 hc hN (pi_wr hi) ok hv hg ht (fun s H C cl fp => pi_wr (hi1 s H C cl fp)) hg1 ht1 he hs hs1
end
/-- over a list or a tuple that stood at H0, by a word over (turn, heap) -/
theorem lc2_seq {K : Frag} {p : Addr} {xs : List V} {g : TG} {tt : TT} {wi1 : TI} {g1 : TG} {tt1 : TT} {te : TE} {vs vs1 : List Nat} {σ : L2.St} {H0 H1 : Hp} {Q : VK} (hx : SqA K H0 p xs) (e0 : Same H0 H1)
    (h : ∀ D, H1 D = none → ∃ Pv : Nat → Hp → Prop, Pv 0 (upd H1 D (.lst [])) ∧ (∀ i H, i ≤ xs.length → Pv i H → Same H0 H) ∧
      (∀ i x H, xs[i]? = some x → Pv i H → g x (wipe σ vs) H fun σ2 H2 => wipe σ2 vs = wipe σ vs ∧ tt σ2 H2 fun b H3 =>
        if b = true then wi1 σ2 H3 (Wr (Lc2In D g1 tt1 te vs1 σ2 (Pv (i + 1)))) else Pv (i + 1) H3) ∧ (∀ H, Pv xs.length H → Q (.ref D) H)) :
    Walk K H1 p (Wr (Lc2Go g tt wi1 g1 tt1 te vs vs1 σ Q)) := by
  rcases hx with hx | hx
  · refine ⟨.inl ⟨⟨xs, e0.seq hx⟩, ⟨fun D hD => ?_⟩⟩⟩
    obtain ⟨Pv, h0, hl, hs, hd⟩ := h D hD
    refine ⟨fun i m H => m = xs.length - i ∧ i ≤ xs.length ∧ Pv i H, ⟨xs.length, by simp, Nat.zero_le _, h0⟩, ?_⟩
    rintro i m H ⟨rfl, hi, p⟩
    have q := (hl i H hi p).seq hx
    by_cases hlt : i < xs.length
    · refine .inr ⟨⟨xs, xs[i], q, by simp [hlt]⟩, Pv (i + 1), fun H' p' => ⟨xs.length - (i + 1), by omega, rfl, hlt, p'⟩, fun x H' y => ?_⟩
      obtain ⟨e, y⟩ := y
      subst e
      exact hs i x _ (y xs q) p
    · have e : i = xs.length := by omega
      subst e
      exact .inl ⟨⟨xs, q, Nat.le_refl _⟩, hd H p⟩
  · refine ⟨.inr ⟨⟨xs, Same.tup e0 hx⟩, ⟨fun D hD => ?_⟩⟩⟩
    obtain ⟨Pv, h0, hl, hs, hd⟩ := h D hD
    refine ⟨fun i m H => m = xs.length - i ∧ i ≤ xs.length ∧ Pv i H, ⟨xs.length, by simp, Nat.zero_le _, h0⟩, ?_⟩
    rintro i m H ⟨rfl, hi, p⟩
    have q := Same.tup (hl i H hi p) hx
    by_cases hlt : i < xs.length
    · refine .inr ⟨⟨xs, xs[i], q, by simp [hlt]⟩, Pv (i + 1), fun H' p' => ⟨xs.length - (i + 1), by omega, rfl, hlt, p'⟩, fun x H' y => ?_⟩
      obtain ⟨e, y⟩ := y
      subst e
      exact hs i x _ (y xs q) p
    · have e : i = xs.length := by omega
      subst e
      exact .inl ⟨⟨xs, q, Nat.le_refl _⟩, hd H p⟩
/-- the second loop over a range -/
theorem lc2_rng {lo : Int} {n : Nat} {D : Addr} {g1 : TG} {tt1 : TT} {te : TE} {vs1 : List Nat} {σ2 : L2.St} {Nx : Hp → Prop} {H4 : Hp} (Pw : Nat → Hp → Prop) (h0 : Pw 0 H4)
    (hs : ∀ j H, j < n → Pw j H → g1 (.int (lo + j)) (wipe σ2 vs1) H fun σ3 H5 => wipe σ3 vs1 = wipe σ2 vs1 ∧ tt1 σ3 H5 fun b H6 =>
      if b = true then te σ3 H6 fun y H7 => ∃ acc, H7 D = some (.lst acc) ∧ acc.length < sizeLine ∧ Pw (j + 1) (upd H7 D (.lst (acc ++ [y]))) else Pw (j + 1) H6) (hd : ∀ H, Pw n H → Nx H) :
    Wr (Lc2In D g1 tt1 te vs1 σ2 Nx) (Itr lo n) H4 := by
  refine ⟨fun i m H => m = n - i ∧ i ≤ n ∧ Pw i H, ⟨n, by simp, Nat.zero_le _, h0⟩, ?_⟩
  rintro i m H ⟨rfl, hi, p⟩
  by_cases hlt : i < n
  · refine .inr ⟨hlt, Pw (i + 1), fun H' p' => ⟨n - (i + 1), by omega, rfl, hlt, p'⟩, fun x H' y => ?_⟩
    obtain ⟨e, y⟩ := y
    subst e y
    exact hs i _ hlt p
  · have e : i = n := by omega
    subst e
    exact .inl ⟨Nat.le_refl _, hd H p⟩
end S
namespace S
open PySem PySem.Spec PyProof.Rows L2
end S
namespace S
open PySem PySem.Spec PyProof.Rows L2
end S
namespace S
open PySem PySem.Spec PyProof.Rows L2
/-! ### a new one -/
structure NewD (H : Hp) (u : HO) (Q : VK) : Prop where
  go : ∀ p, H p = none → Q (.ref p) (upd H p u)
def dNewT : TE := fun _ H Q => NewD H (.dT []) Q
theorem pe_newT {X : Cx} {pos : Pos} : PE X (.Dict [] [] pos) dNewT := PE.of pe_dnewT fun σ H Q q => q.go
/-! ### d[k] -/
structure DG (H : Hp) (a : Addr) (y : V) (k : V → Prop) : Prop where
  ex : ∃ v, DGet H a y (some v) ∧ k v
def oIxD (K : Frag) : R2 := fun x y H Q => match x, y with
  | .ref a, .str z => DG H a (.str z) fun v => Q v H
  | .ref a, .ref b => DG H a (.ref b) fun v => Q v H
  | x, y => oIx K x y H Q
theorem ix_dict {X : Cx} (hu : X.A.units + 64 < cLine) : IxR X (oIxD X.K) := by
  intro e1 e2 pins s σ H x y v u Q I rx ry q hs
  have two : ∀ a, x = .ref a → DG H a y (fun v => Q v H) → wpAny (model X.prog X.w) X.A (subscriptTail e1 e2 v u) (EP X pins σ Q) X.xe s := by
    intro a ea h9
    obtain ⟨z, g, q9⟩ := h9.ex
    subst ea
    cases rx
    exact tail_any (dict_typeIs I g) PySem.F.slot_dict_getitem.lookup (d_getItem (by omega) I g ry fun w' s' I' rw' => ⟨z, H, I', rw', q9⟩) hs
  cases x <;> cases y <;> first
    | exact two _ rfl q
    | exact ix_any e1 e2 pins s σ H _ _ v u Q I rx ry q hs
/-! ### k in d -/
structure DIn (H : Hp) (a : Addr) (y : V) (k : Bool → Prop) : Prop where
  ex : ∃ o, DGet H a y o ∧ k o.isSome
def oNinD (K : Frag) : R2 := fun x y H Q => match y with
  | .ref a => DIn H a x fun b => Q (.bl (!b)) H
  | y => oNin K x y H Q
theorem o_ninD {X : Cx} (hu : X.A.units + 64 < cLine) : OpR X (compareOp .NotIn) (oNinD X.K) := by
  intro pins s σ H x y v u Q I rx ry q
  cases y with
  | ref a =>
    obtain ⟨⟨o, g, q⟩⟩ := q
    cases ry
    exact d_notIn (by omega) I g rx fun s' I' => ⟨.bl (!o.isSome), H, I', rfl, q⟩
  | _ => exact o_nin pins s σ H x _ v u Q I rx ry q
/-! ### d[k] = v -/
structure StD (H : Hp) (a : Addr) (i v : V) (k : Hp → Prop) : Prop where
  ex : ∃ H', DPut H a i v H' ∧ k H'
def oSetD : V → V → V → Hp → (Hp → Prop) → Prop := fun o i v H Q => match o, i with
  | .ref a, .str z => StD H a (.str z) v Q
  | .ref a, .ref b => StD H a (.ref b) v Q
  | o, i => oSet o i v H Q
theorem s_dict {X : Cx} (hu : X.A.units + 64 < cLine) : PSet X oSetD := by
  intro pins s σ H o i v uo ui uv Q I ro ri rv q
  have two : ∀ a, o = .ref a → StD H a i v Q → wpAny (model X.prog X.w) X.A (setItem uo ui uv) (fun x s' => ∃ H', L2.Inv X pins σ H' s' ∧ Q H') X.xe s := by
    intro a ea h9
    obtain ⟨H', g, q9⟩ := h9.ex
    exact set_dict (X := X) (by omega) pins s σ H o i v uo ui uv Q I ro ri rv ⟨a, H', ea, g, q9⟩
  cases o <;> cases i <;> first
    | exact two _ rfl q
    | exact s_list pins s σ H _ _ v uo ui uv Q I ro ri rv q
/-! ### d.get(k, x) -/
/-! ### tuples whose very object is known -/
def TupF (H : Hp) (a : Addr) (xs : List V) : Prop := ∃ o : Obj, H a = some (.frz o (.tup xs)) ∧ o.cls = .type "tuple" ∧ o.dict = none
theorem TupF.t {K : Frag} {H : Hp} {a : Addr} {xs : List V} (h : TupF H a xs) : SqT K H a xs := let ⟨o, h, _⟩ := h; .inl (.inr ⟨o, h⟩)
theorem TupF.same {H H' : Hp} {a : Addr} {xs : List V} (h : TupF H a xs) (e : Same H H') : TupF H' a xs := let ⟨o, h, c⟩ := h; ⟨o, e _ _ h, c⟩
theorem TupF.x {H H' : Hp} {a st : Addr} {xs : List V} (h : TupF H a xs) (e : SameX st H H') (n : ∀ o u, H st ≠ some (.frz o u)) : TupF H' a xs := let ⟨o, h, c⟩ := h; ⟨o, e _ _ h fun z => n _ _ (z ▸ h), c⟩
structure NewTF (H : Hp) (ys : List V) (Q : VK) : Prop where
  go : ∀ p H', Same H H' → H p = none → TupF H' p ys → Q (.ref p) H'
/-! ### dict(a tuple of pairs), dict(a list of pairs), dict(a dict) -/
end S
namespace S
open PySem PySem.Spec PyProof.Rows L2
/-! ### sorted(list of numbers | list of texts | dict of texts) -/
/-! ### list(sequence | dict) -/
/-! ### {k: v} -/
/-! ### {k: v for ..} -/
/-! ### for k in d -/
end S
namespace S
open PySem PySem.Spec PyProof.Rows L2
section
variable {X : Cx} {c : Str} {g : Addr} {k : Nat} {sp : Sp} {E : XK}
end
end S
namespace S
open PySem PySem.Spec PyProof.Rows L2
section
variable {P : Program} {w : World} {K : Frag} {mg : Str → Option Value} {base : Heap} {c nm qual : Str} {params : Arguments} {body rest : List Stmt} {scope : Scope} {fI g : Addr} {p0 p1 p2 p4 p5 : Pos} {e : Expr} {es : List Expr} {N ps : List Str} {self0 : Str} {k : Nat} {sp sp0 : Sp} {ta : XK → TA} {tr : XK → TS} {pl : Env → Sem Bool}
end
/-! ### such a def in the head -/
end S
namespace S
open PySem PySem.Spec PyProof.Rows L2
section
variable {X : Cx} {k : Nat} {cs : List Str} {sp : Str → Sp} {E : L2.St → XK} {x m : Str} {p pos apos : Pos} {e o : Expr} {es : List Expr} {t : TA} {ta : TE}
end
theorem FR.none {P : Program} {w : World} {K : Frag} {mg : Str → Option Value} {base : Heap} {k : Nat} {f : Addr} {sp : Sp} (h : ∀ vs H Q E, ¬ sp vs H Q E) : FR P w K mg base k f sp := fun _ _ _ _ _ _ _ _ _ _ _ hs => (h _ _ _ _ hs).elim
end S
namespace S
open PySem PySem.Spec PyProof.Rows L2
section
open PySem.W
variable {prog : Program} {w : World} {A : Around} {E : Value → Shared → Prop} {s : Shared} {K : Frag} {x y C C2 L f f2 : Addr} {h₀ : Heap} {m : Str → Option Value} {ox oy : Obj} {od oe : Option Obj}
end
section
variable {X : Cx} {k : Nat} {cs : List Str} {sp : Str → Sp} {E : XK} {m : Str}
end
end S
namespace S
open PySem PySem.Spec PyProof.Rows L2
end S
namespace S
open PySem PySem.Spec PyProof.Rows L2
end S
namespace S
open PySem PySem.Spec PyProof.Rows L2
structure InD (K : Frag) (H : Hp) (c : Str) (a : Addr) (q : Prop) : Prop where
  ex : ∃ dx fs, H a = some (.ins (He.ga K c) dx fs)
  q : q
theorem InD.of {K : Frag} {H : Hp} {c : Str} {a dx : Addr} {fs : List (Str × V)} {q : Prop} (h : H a = some (.ins (He.ga K c) dx fs)) (h2 : q) : InD K H c a q := ⟨⟨dx, fs, h⟩, h2⟩
section
variable {X : Cx} {k : Nat} {g : Addr} {sp : Sp} {E : XK} {c : Str} {ups : List Str} {tys : List String}
end
/-! ### tuple displays as tracked tuples -/
structure NewTK (H : Hp) (ys : List V) (Q : V → Hp → Prop) : Prop where
  go : ∀ p, H p = none → Q (.ref p) (upd H p (.tup ys))
def dTupK (t : TA) : TE := fun σ H Q => t σ H fun xs H1 => Need (xs.length ≤ sizeLine) (NewTK H1 xs Q)
theorem pe_tupK {X : Cx} {es : List Expr} {t : TA} {x1} {pos : Pos} (h : PA X es t) : PE X (.Tuple es x1 pos) (dTupK t) := by
  refine ⟨fun pins s σ H Q I hq => ?_⟩
  refine wpAny_Tuple_spliced (thn (h.run pos pins s σ H _ I hq) fun us s1 ⟨xs, H1, I1, r, ⟨z, ⟨q⟩⟩⟩ => ⟨by rw [← r.length]; exact z, ?_⟩)
  have hf : H1 s1.heap.objs.size = none := I1.hok.fresh (Nat.le_refl _)
  refine ⟨.ref s1.heap.objs.size, upd H1 s1.heap.objs.size (.tup xs), I1.laid (t' := s1.toks) (fun b u e => Heap.get?_push_of_some _ e) (Nat.le_refl _) ?_, rfl, q _ hf⟩
  exact ⟨z, us, r, ⟨_, Heap.get?_push_size _ rfl, rfl, _, rfl⟩⟩
/-! ### dicts whose keys are tuples -/
theorem DG.t {H : Hp} {a b : Addr} {kvs : List (List Key × V)} {ks : List Key} {v : V} {k : V → Prop} (e : L2.Rd H a (.dT kvs)) (eb : H b = some (.tup (ks.map kV))) (l : valV kvs ks = some v) (q : k v) : DG H a (.ref b) k := ⟨v, .inr ⟨kvs, ks, b, e, rfl, eb, l.symm⟩, q⟩
theorem DIn.t {H : Hp} {a b : Addr} {kvs : List (List Key × V)} {ks : List Key} {k : Bool → Prop} (e : L2.Rd H a (.dT kvs)) (eb : H b = some (.tup (ks.map kV))) (q : k (valV kvs ks).isSome) : DIn H a (.ref b) k := ⟨_, .inr ⟨kvs, ks, b, e, rfl, eb, rfl⟩, q⟩
theorem StD.t {H : Hp} {a b : Addr} {kvs : List (List Key × V)} {ks : List Key} {v : V} {k : Hp → Prop} (e : H a = some (.dT kvs)) (eb : H b = some (.tup (ks.map kV))) (hl : kvs.length < sizeLine) (q : k (upd H a (.dT (putK kvs ks v)))) : StD H a (.ref b) v k := ⟨_, DPut.t e eb hl, q⟩
end S
namespace S
open PySem PySem.Spec PyProof.Rows L2
section
variable {X : Cx} {k : Nat} {g : Addr} {sp : Sp} {E : L2.St → XK} {c : Str} {ups : List Str} {tys : List String}
end
/-! i | j of numbers -/
def oOr : R2 := oI0 fun i j => Builtin.bitOr i j
theorem o_or {X : Cx} : OpR X (binaryOp .BitOr) oOr := oI0_of op_or
end S
namespace S
open PySem PySem.Spec PyProof.Rows L2
structure XiF2 (P : Program) (K : Frag) (c fld fld2 nm qual : Str) (params : Arguments) (body : List Stmt) (scope : Scope) (fI : Addr) (fd : FuncData) : Prop where
  fn : ∃ oc od osl kV doc pm an cda ct cc, fd = PySem.W.ksFn nm qual params body scope .none kV doc pm an (.ref cda) ct cc ∧ K.lookup fI = some ⟨oc, od, .func fd, osl⟩ ∧ PySem.W.codeIn K (.ref cda) qual = true ∧
    (∃ cl cld csl, K.lookup cc = some ⟨cl, cld, .cell (some (.ref (He.ga K c))), csl⟩) ∧ ∃ ccl cdd vs ccs file tf, K.lookup cda = some ⟨ccl, cdd, .fields vs, ccs⟩ ∧ vs[2]? = some (.str file tf) ∧ ((P.main.file : Str) == file) = true
  sub : PySem.W.mroIn K (He.ga K c) (.ref (He.ga K c)) = some true
  sup : PySem.W.ks_superIn K (He.ga K c) (He.ga K c) "__init__" = some (some (.builtin "ValueError.__init__"))
  ve : PySem.W.subIn K (.ref (He.ga K c)) (.type "ValueError") = some true
  st : PySem.W.nsIn K cStatics "thirdparty.any" = some none
  oex : OexC K (He.ga K c)
  no : PySem.W.findIn K (.ref (He.ga K c)) fld = some none
  no2 : PySem.W.findIn K (.ref (He.ga K c)) fld2 = some none
  ini : PySem.W.findIn K (.ref (He.ga K c)) "__init__" = some (some (.ref fI))
  tI : PySem.W.typeIn K (.ref fI) = some (.type "function")
  top : (P.main.scope.names.lookup ("super" : Str)).isSome = false
/-- the promise: both fields are kept -/
def spXi2 (K : Frag) (c fld fld2 : Str) : Sp := fun vs H Q _ => ∃ (a : Addr) (v v2 : V), vs = [.ref a, v, v2] ∧ H a = some (exo a (He.ga K c) none) ∧ ∀ dx, H dx = none → dx ≠ a → Q .non (upd (upd H dx (exd dx [(fld2, v2), (fld, v)])) a (exo a (He.ga K c) (some dx)))
section
variable {P : Program} {w : World} {K : Frag} {mg : Str → Option Value} {base : Heap} {CX : CXT} {c fld fld2 nm qual par par2 msg : Str} {params : Arguments} {body : List Stmt} {scope : Scope} {fI : Addr} {fd : FuncData} {p0 p1 p2 p3 p4 p5 p6 p7 p8 p9 q6 q7 q8 q9 : Pos} {j : Nat}
theorem xi2_ok {k : Nat} {pl : Env → Sem Bool} (D : XiF2 P K c fld fld2 nm qual params body scope fI fd) (hms : mg "super" = none)
    (hbody : body = [.Expr (.Call (.Attribute (.Call (.Name "super" p0) [] [] p1) "__init__" p2) [.Constant (.str msg) j p3] [] p4) p5, .Assign [.Attribute (.Name "self" p6) fld p7] (.Name par p8) p9, .Assign [.Attribute (.Name "self" q6) fld2 q7] (.Name par2 q8) q9])
    (hp : ∃ ar, (params.posonlyargs ++ params.args).head? = some ar ∧ ar.arg = "self") (hk : scope.kind = .function) (hco : scope.isCoroutine = false) (hgen : scope.isGenerator = false) (hcell : ∀ x ∈ scope.names, x.2 ≠ .cell)
    (hks : scope.names.lookup ("super" : Str) = some .globalImplicit) (hkc : scope.names.lookup ("__class__" : Str) = some .free) (hka : scope.names.lookup ("self" : Str) = some .local) (hkp : scope.names.lookup par = some .local) (hkp2 : scope.names.lookup par2 = some .local) (hne : par ≠ "self") (hne2 : par2 ≠ "self") (hnp : par ≠ par2) (hff : fld ≠ fld2) (hpd : (par == ("__debug__" : Str)) = false) (hpd2 : (par2 == ("__debug__" : Str)) = false)
    (hsw : ∀ env, swapsWith (.Name par p8) (some (.Attribute (.Name "self" p6) fld p7)) p9.line env = pure false) (hsw3 : ∀ env, swapsWith (.Name par2 q8) (some (.Attribute (.Name "self" q6) fld2 q7)) q9.line env = pure false) (hsw2 : ∀ env, swapsWith (.Call (.Attribute (.Call (.Name "super" p0) [] [] p1) "__init__" p2) [.Constant (.str msg) j p3] [] p4) none p5.line env = pure false)
    (hev : ∀ env, eval (.Call (.Attribute (.Call (.Name "super" p0) [] [] p1) "__init__" p2) [.Constant (.str msg) j p3] [] p4) env = (do
      let ov ← attributeBase (.Call (.Name "super" p0) [] [] p1) "__init__" env (eval (.Call (.Name "super" p0) [] [] p1) env)
      standAt p2.atName
      let (f, first) ← holding [ov] (getMethod ov "__init__" (pl env))
      callWith p4 f first (backTo p4 (starEach [.Constant (.str msg) j p3] env)) [])) :
    FnOk P w K mg base CX k fI fd ["self", par, par2] (spXi2 K c fld fld2) := by
  refine ⟨fun vs H Q E h => by obtain ⟨a, v, v2, rfl, _⟩ := h; rfl, fun A outer s H args us vs Q E hr e0 hb rv hsp => ?_⟩
  obtain ⟨a, v, v2, rfl, ha, q⟩ := hsp
  obtain ⟨oc, od, osl, kV, doc, pm, an, cda, ct, cc, rfl, lk, hcd, ⟨cl, cld, csl, lc⟩, ccl, cdd, fvs, ccs, file, tf, lcd, hvs, hfile⟩ := D.fn
  cases rv with
  | @cons _ u0 _ ur ra rv' =>
    cases rv' with
    | @cons _ uv _ _ rr rn' =>
     cases rn' with
     | @cons _ uv2 _ _ rr2 rn =>
      cases rn
      obtain rfl : u0 = Value.ref a := ra
      have KX : K.In s.heap := e0.mod.kin.keeps fun b o e => (e0.bs b o e).1
      have lim : s.heap.NoLimit := e0.mod.nolimit.keeps fun b o e => (e0.bs b o e).1
      obtain ⟨t1, ho⟩ := exo_at e0.hok ha
      obtain ⟨nmC, qC, NC, bsC, bmC, snC, subC, abC, colC, ddC, k0, k1, k2, k3, k5, hC, hbm⟩ := D.oex.cls
      obtain ⟨ar, har, har2⟩ := hp
      obtain ⟨mb, hmb, hbt⟩ := e0.mod.blt
      have haC : a ≠ He.ga K c := fun z => by
        have hb1 : base.get? (He.ga K c) = _ := e0.mod.kin _ _ hC
        have := (e0.bs _ _ hb1).2
        rw [← z, ha] at this
        cases this
      subst hbody
      have hlk1 : ([(("self" : Str), Value.ref a), (par, uv), (par2, uv2)] : List (Str × Value)).reverse.lookup ("self" : Str) = some (Value.ref a) := by
        have e : (("self" : Str) == par) = false := by rw [beq_eq_false_iff_ne]; exact fun z => hne z.symm
        have e2 : (("self" : Str) == par2) = false := by rw [beq_eq_false_iff_ne]; exact fun z => hne2 z.symm
        simp [List.lookup, e, e2]
      have hlk2 : ([(("self" : Str), Value.ref a), (par, uv), (par2, uv2)] : List (Str × Value)).reverse.lookup par = some uv := by
        have e : (par == par2) = false := by rw [beq_eq_false_iff_ne]; exact hnp
        simp [List.lookup, e]
      have hlk3 : ([(("self" : Str), Value.ref a), (par, uv), (par2, uv2)] : List (Str × Value)).reverse.lookup par2 = some uv2 := by simp [List.lookup]
      refine PySem.ks_codeAny_call_defAt (binds := [("self", .ref a), (par, uv), (par2, uv2)]) hr.depth (KX _ _ lk) rfl lim (PySem.W.codeRec_of KX hcd) rfl hb hcell (fun y hy => ?_) (fun h₁ hns keep => ?_) hco hgen hk
      · rcases List.mem_cons.mp hy with rfl | hy
        · exact hka
        · rcases List.mem_cons.mp hy with rfl | hy
          · exact hkp
          · rw [List.mem_singleton.mp hy]; exact hkp2
      have K1 : K.In h₁ := KX.keeps keep
      have g1 : h₁.Ns mainGlobals mg := e0.mod.glob.keeps fun b o e => keep b o (e0.bs b o e).1
      have b1 : h₁.Ns builtinsNs mb := hmb.keeps fun b o e => keep b o (e0.bs b o e).1
      have nL : s.heap.objs.size ≠ a := Nat.ne_of_gt (Heap.lt_size ho)
      refine PySem.ks_wpAt_execs_cons (PySem.ks_wpAt_Expr_any (hi := by unfold interactive; show (scope.kind == _ && _) = false; rw [hk]; rfl) (hs := hsw2 _) (PySem.ks_wpAt_MethodCall (he := hev _) (PySem.ks_wpAt_super_base hks hkc (by decide) rfl (K1 _ _ lk) rfl har rfl (K1 _ _ lcd) rfl hvs hfile D.top ?_)))
      rw [har2]
      refine PySem.W.ks_loadName_global hk hks (Calls.loadGlobal_builtin g1 hms b1 ((hbt "super" (by decide)).trans (by decide +kernel : bootBuiltins ("super" : Str) = some (.type "super"))) ⟨rfl, ?_⟩)
      refine wpAny_loadName_free hk hkc rfl ⟨_, K1 _ _ lc, rfl⟩ ?_
      refine wpAny_loadName_local hk hka hns hlk1 ?_
      obtain ⟨sh, sg, sd, stk, sos⟩ := s
      refine PySem.ks_wpAny_isType_cls (K1 _ _ hC) rfl ⟨rfl, ?_⟩
      refine PySem.ks_wpAny_call_super (K1 _ _ hC) rfl (keep _ _ ho) rfl (fun c z => nomatch z) (PySem.W.looks_mroIn K1 D.sub) fun h2 hso kp2 => ?_
      have K2 : K.In h2 := K1.keeps kp2
      have ho2 := kp2 _ _ (keep _ _ ho)
      have I2 : PySem.W.InstAt h2 a _ (He.ga K c) none := ⟨ho2, rfl, rfl, trivial⟩
      obtain ⟨cd, hcl, hal⟩ : ∃ cd, PySem.W.clsIn K (He.ga K c) = some cd ∧ PySem.W.alongIn K "__init__" ((cd.mro.dropWhile (· != .ref (He.ga K c))).drop 1) = some (some (.builtin "ValueError.__init__")) := by
        have hm := D.sup
        unfold PySem.W.ks_superIn at hm
        cases hc : PySem.W.clsIn K (He.ga K c) with
        | none => rw [hc] at hm; cases hm
        | some cd => rw [hc] at hm; exact ⟨cd, rfl, hm⟩
      refine PySem.W.kxs_getMethod PySem.W.kxs_ValueError hso (PySem.W.looks_opaque K2 D.st) (l₀ := cd.mro) (fun A Q E s k q => wpAny_bind ((PySem.W.looks_clsIn K2 hcl) A _ E s k (wpAny_pure q))) rfl K2 hal (I2.type.andThen (PySem.W.looks_subIn K2 D.ve)) haC (by decide) ?_
      have K3 : K.In (h2.push (PySem.W.kxs_mw "ValueError.__init__" a)) := K2.keeps fun b o e => Heap.get?_push_of_some _ e
      have hu : (h2.push (PySem.W.kxs_mw "ValueError.__init__" a)).get? h2.objs.size = some (PySem.W.kxs_mw "ValueError.__init__" a) := Heap.get?_push_at rfl rfl
      have ho3 := Heap.get?_push_of_some (PySem.W.kxs_mw "ValueError.__init__" a) ho2
      refine PySem.W.kxs_callWith (i := "ValueError.__init__") (x := a) rfl (Calls.evalArgs_plain ?_)
      show wpAny _ _ (spliced ((false, eval (.Constant (.str msg) j p3) _) :: backTo p4 (starEach [] _))) _ _ _
      refine Calls.spliced_cons (wpAny_Constant_str ?_)
      refine Calls.spliced_nil ⟨hu, ?_⟩
      refine wpAny_call (codeAny_of_tree ?_)
      show wpAny _ _ (callAny (.ref h2.objs.size) ⟨[.str msg _], []⟩) _ _ _
      simp only [callAny]
      refine wpAny_bind (wpAny_load hu ?_)
      simp only [PySem.W.kxs_mw, show (Value.type "method-wrapper" == Value.type "method" || Value.type "method-wrapper" == Value.type "builtin_function_or_method" || Value.type "method-wrapper" == Value.type "method-wrapper") = true by decide, if_true]
      refine PySem.W.KFB.if_so (by decide) ?_
      refine wpAny_bind (PySem.W.check_bound_init PySem.F.excBase_ValueError.toExcCallFacts (K3 _ _ hC) ho3 rfl ?_)
      refine wpAny_bind (wpAny_pure (wpAny_pure ?_))
      refine ⟨plainId_quiet PySem.F.excBase_ValueError.init.plain _, codeAny_builtin PySem.F.excBase_ValueError.initEntry ?_⟩
      refine PySem.W.exc_init_tree (cls := .ref (He.ga K c)) (t0 := t1) (dv := none) (c2 := .none) (c3 := .none) (b4 := .bool false) ho3 (by rw [sizeLine_eq]; show 1 ≤ 16777216; decide) fun h4 k4 ho4 _ => ?_
      have kall : ∀ b o, b ≠ a → h₁.get? b = some o → h4.get? b = some o := fun b o hb e => k4 b o hb (Heap.get?_push_of_some _ (kp2 b o e))
      have K4 : K.In h4 := fun b o e => kall b o (fun z => by
        have e1 := (e0.bs _ _ (e0.mod.kin _ _ e)).2
        rw [z, ha] at e1
        cases e1) (K1 _ _ e)
      have hns4 := hns.at (h' := h4) fun o e => kall _ o nL e
      have hcl2 : PySem.W.clsIn K (He.ga K c) = some { name := nmC, bases := bsC, mro := .ref (He.ga K c) :: bmC, ns := NC, qualname := qC, hasDict := true, slotNames := snC, subclasses := subC, abstract := abC, collection := colC, hasDel := false } := by unfold PySem.W.clsIn; rw [hC] <;> rfl
      show _root_.PySem.wpAt _ _ _ (execs [.Assign [.Attribute (.Name "self" p6) fld p7] (.Name par p8) p9, .Assign [.Attribute (.Name "self" q6) fld2 q7] (.Name par2 q8) q9] _) _ _ _
      refine PySem.ks_wpAt_execs_cons (wpAt_of_wpAny (plainObj_wpAny_Assign_Attribute (wpAny_Name (wpAny_loadName_local hk hkp hns4 hlk2 (wpAny_Name (wpAny_loadName_local hk hka hns4 hlk1 ?_) (by decide))) hpd) (hsw _)))
      refine PySem.W.set_plain K4 (od := none) ⟨ho4, rfl, rfl, trivial⟩ D.oex.sa ?_
      refine PySem.HandSPX.exc_osa K4 ho4 hcl2 (show PySem.HandSPX.refsVE (.ref (He.ga K c) :: bmC) = true from hbm) rfl D.no (fun h6 tk6 dx kk6 dn dne hx6 hn6 => ?_)
      have kall6 : ∀ b o, b ≠ a → h₁.get? b = some o → h6.get? b = some o := fun b o hb e => kk6 b o hb (kall b o hb e)
      have K6 : K.In h6 := fun b o e => kall6 b o (fun z => by
        have e1 := (e0.bs _ _ (e0.mod.kin _ _ e)).2
        rw [z, ha] at e1
        cases e1) (K1 _ _ e)
      have hns6 := hns.at (h' := h6) fun o e => kall6 _ o nL e
      have hw6 : Within (fun y => if y = fld then some uv else none) [fld] := fun y hy => by
        dsimp only at hy
        by_cases h : y = fld
        · rw [h]; exact List.mem_cons_self ..
        · rw [if_neg h] at hy; exact absurd rfl hy
      obtain ⟨oD, esD, epD, hoD, hdD, _⟩ := hn6.count hw6
      refine PySem.ks_wpAt_execs_cons (wpAt_of_wpAny (plainObj_wpAny_Assign_Attribute (wpAny_Name (wpAny_loadName_local hk hkp2 hns6 hlk3 (wpAny_Name (wpAny_loadName_local hk hka hns6 hlk1 ?_) (by decide))) hpd2) (hsw3 _)))
      refine PySem.W.set_plain K6 (od := some oD) ⟨hx6, rfl, rfl, hoD⟩ D.oex.sa ?_
      refine PySem.OEX.osa_old K6 hx6 hn6 hw6 (by show 1 ≤ 1000; decide) hcl2 (show PySem.HandSPX.refsVE (.ref (He.ga K c) :: bmC) = true from hbm) rfl D.no2 (fun h' tk' kk7 hn => ?_)
      have hx := kk7 a _ (Ne.symm dne) hx6
      have dx0 : sh.objs.size ≤ dx := by
        obtain ⟨o, _, _, e, _⟩ := hns4
        exact Nat.le_trans (Nat.le_of_lt (Heap.lt_size e)) dn
      have kk : ∀ b o, b ≠ a → b < sh.objs.size → h4.get? b = some o → h'.get? b = some o := fun b o hb hl e => kk7 b o (Nat.ne_of_lt (Nat.lt_of_lt_of_le hl dx0)) (kk6 b o hb e)
      have kfin : ∀ b o, b ≠ a → sh.get? b = some o → h'.get? b = some o := fun b o hb e => kk b o hb (Heap.lt_size e) (kall b o hb (keep b o e))
      have dn0 := dx0
      have hnd : H dx = none := e0.hok.fresh dn0
      have nd : ∀ {b : Addr} {o : Obj}, sh.get? b = some o → b ≠ dx := fun {b o} q => Nat.ne_of_lt (Nat.lt_of_lt_of_le (Heap.lt_size q) dn0)
      have na : ∀ {b : Addr}, H b = none → b ≠ a := fun {b} n z => by
        rw [z, ha] at n
        cases n
      show _root_.PySem.wpAt _ _ _ (execs [] _) _ _ _
      refine wpAt_of_wpAny (wpAny_execs_nil ?_)
      refine ⟨.non, upd (upd H dx (exd dx [(fld2, v2), (fld, v)])) a (exo a (He.ga K c) (some dx)), rfl, e0.bare, ⟨fun b o q n _ _ => kfin b o (na n) q, fun b o q n _ _ => ⟨o.slots, kfin b o (na n) q⟩, fun b o q n _ => by rw [upd_ne (na n), upd_ne (nd q)]; exact n, fun b o q _ => ?_, fun b xs q => by rw [upd_ne (at_ne ha q exo_tup), upd_ne (ne_of_none q hnd)]; exact q, fun b o v q => by rw [upd_ne (at_ne ha q exo_frz), upd_ne (ne_of_none q hnd)]; exact q, fun b ps q => ⟨#[], by rw [upd_ne (at_ne ha q exo_tbl), upd_ne (ne_of_none q hnd), q]; simp⟩⟩, fun b o q => ?_, rfl, q dx hnd dne⟩
      · by_cases hb : b = a
        · exact ⟨_, by rw [hb]; exact hx⟩
        · exact ⟨o, kfin b o hb q⟩
      · by_cases hb : b = a
        · subst hb
          rw [upd_same] at q
          cases q
          exact exo_ok hx
        · rw [upd_ne hb] at q
          by_cases hd : b = dx
          · subst hd
            rw [upd_same] at q
            cases q
            exact exd_ok hn (relO_put (fs := [(fld, v)]) rr2 (relO_put (fs := []) rr fun g => True.intro))
          · rw [upd_ne hd] at q
            exact (e0.hok b o q).stay (fun c v hc z => kfin c v (by
                rcases hc with hc | hc
                · rw [hc]
                  exact hb
                · exact at_ne ha hc exo_own) z)
              (fun c hc => by rw [upd_ne (at_ne ha hc exo_own), upd_ne (ne_of_none hc hnd)]; exact hc) (fun c xs hc => by rw [upd_ne (at_ne ha hc exo_tup), upd_ne (ne_of_none hc hnd)]; exact hc)
end
theorem xi2_of {P : Program} {K : Frag} {c fld fld2 nm qual : Str} {params : Arguments} {body : List Stmt} {scope : Scope} (e : fnX K (He.fAd K (c, some "__init__")) = some (nm, qual, params, .stmts body, scope, mainGlobals, [(("__class__" : Str), (0 : Addr))], builtinsNs)) (h : xiB2 P c fld fld2 K = true) :
    ∃ fd, XiF2 P K c fld fld2 nm qual params body scope (He.fAd K (c, some "__init__")) fd := by
  obtain ⟨h1, h⟩ := He.ba h
  obtain ⟨h2, h⟩ := He.ba h
  obtain ⟨h3, h⟩ := He.ba h
  obtain ⟨h4, h⟩ := He.ba h
  obtain ⟨h5, h⟩ := He.ba h
  obtain ⟨h6, h⟩ := He.ba h
  obtain ⟨h7, h⟩ := He.ba h
  obtain ⟨h72, h⟩ := He.ba h
  obtain ⟨h8, h⟩ := He.ba h
  obtain ⟨h9, h10⟩ := He.ba h
  unfold fnX at e
  unfold fnB at h1
  cases lk : K.lookup (He.fAd K (c, some "__init__")) with
  | none => rw [lk] at e; cases e
  | some o =>
    rw [lk] at e h1
    obtain ⟨oc, od, dat, osl⟩ := o
    cases dat <;> try cases e
    rename_i fd
    obtain ⟨k1, k0⟩ := He.ba h1
    obtain ⟨kd, k2⟩ := He.ba k0
    obtain ⟨n1, n2, n3, n4, n5, n6, n7, n8, n9, n10, n11, n12, n13, n14, n15⟩ := fd
    simp only [Option.some.injEq, Prod.mk.injEq] at e
    obtain ⟨e1, e2, e3, e4, e5, e6, e7, e8⟩ := e
    subst e1 e2 e3 e4 e5 e6 e8
    dsimp only at k1 k2 kd
    have hdn : n8 = Value.none := by
      rcases He.dflB_ok kd with ⟨_, z⟩ | ⟨z, _⟩
      · exact z
      · exact absurd rfl z
    subst hdn
    obtain ⟨cda, nmc, cc, ec, eclo, h3', h4'⟩ := cloB_ok k2
    subst ec eclo
    have enm : nmc = "__class__" := by simpa using e7
    subst enm
    exact ⟨_, ⟨⟨oc, od, osl, _, _, _, _, cda, _, cc, rfl, lk, k1, cellTo_ok h3', codeFile_ok h4'⟩, of_decide_eq_true h2, He.eqO_ok h3, of_decide_eq_true h4, of_decide_eq_true h5, oexB_ok h6, of_decide_eq_true h7, of_decide_eq_true h72, He.eqO_ok h8, of_decide_eq_true h9, by simpa using h10⟩⟩
end S
namespace S
open PySem PySem.Spec PyProof.Rows L2
/-- the arguments read, the exception is made -/
structure RsI2 (K : Frag) (c fld fld2 : Str) (k : Addr → Hp → Prop) (vs : List V) (H : Hp) : Prop where
  ex : ∃ v u, vs = [v, u] ∧ NewX H [(fld2, u), (fld, v)] k
theorem RsI2.of {K : Frag} {c fld fld2 : Str} {k : Addr → Hp → Prop} {v u : V} {H : Hp} (q : ∀ d, H d = none → k d (upd H d (.xd [(fld2, u), (fld, v)]))) : RsI2 K c fld fld2 k [v, u] H := ⟨v, u, rfl, ⟨q⟩⟩
def dRsI2 (K : Frag) (c fld fld2 : Str) (W : WX) (ta : TA) : TS := fun _ σ H => ta σ H (RsI2 K c fld fld2 fun d H2 => W (.ref (He.ga K c)) (some d) σ H2)
theorem xi2_heap {H : Hp} {a dx C : Addr} {fs : List (Str × V)} (ha : H a = none) (hd : H dx = none) (hne : dx ≠ a) : upd (del (upd (upd (upd H a (exo a C none)) dx (exd dx fs)) a (exo a C (some dx))) a) dx (.xd fs) = upd H dx (.xd fs) := by
  funext b
  by_cases h1 : b = dx
  · rw [h1, upd_same, upd_same]
  · rw [upd_ne h1, upd_ne h1]
    by_cases h2 : b = a
    · rw [h2, del_same, ha]
    · rw [del_ne h2, upd_ne h2, upd_ne h1, upd_ne h2]
/-- a reading that a stronger wish serves -/
def upT (t : TA) : TA := fun σ H Q => ∃ R, t σ H R ∧ ∀ vs H1, R vs H1 → Q vs H1
theorem pa_up {X : Cx} {es : List Expr} {t : TA} (h : PA X es t) : PA X es (upT t) := ⟨fun pos pins s σ H Q I ⟨R, q, i⟩ => thn (h.run pos pins s σ H R I q) fun us s1 ⟨vs, H1, I1, r, q1⟩ => ⟨vs, H1, I1, r, i vs H1 q1⟩⟩
theorem ps_rsI2 {X : Cx} {c fld fld2 nm qual par par2 msg : Str} {params : Arguments} {body : List Stmt} {scope : Scope} {fI : Addr} {p0 p1 p2 p3 p4 p5 p6 p7 p8 p9 q6 q7 q8 q9 pp ppos ppos' : Pos} {j : Nat} {pl : Env → Sem Bool} {W : WX} {e : Expr} {es : List Expr} {ta : TA} (tk : Takes X W)
    (D : ∃ fd, XiF2 X.prog X.K c fld fld2 nm qual params body scope fI fd) (hms : X.mg "super" = none) (gC : X.mg c = some (.ref (He.ga X.K c))) (hr : Room 1 X.A) (ha : PA X (e :: es) ta)
    (hbind : ∀ (kV doc pm : Value) (an : Option Addr) (cdv ct : Value) (cc : Addr) (us : List Value), us.length = 3 → bindArgs (PySem.W.ksFn nm qual params body scope .none kV doc pm an cdv ct cc) ⟨us, []⟩ = pure ([("self" : Str), par, par2].zip us))
    (hbody : body = [.Expr (.Call (.Attribute (.Call (.Name "super" p0) [] [] p1) "__init__" p2) [.Constant (.str msg) j p3] [] p4) p5, .Assign [.Attribute (.Name "self" p6) fld p7] (.Name par p8) p9, .Assign [.Attribute (.Name "self" q6) fld2 q7] (.Name par2 q8) q9])
    (hp : ∃ ar, (params.posonlyargs ++ params.args).head? = some ar ∧ ar.arg = "self") (hk : scope.kind = .function) (hco : scope.isCoroutine = false) (hgen : scope.isGenerator = false) (hcell : ∀ x ∈ scope.names, x.2 ≠ .cell)
    (hks : scope.names.lookup ("super" : Str) = some .globalImplicit) (hkc : scope.names.lookup ("__class__" : Str) = some .free) (hka : scope.names.lookup ("self" : Str) = some .local) (hkp : scope.names.lookup par = some .local) (hkp2 : scope.names.lookup par2 = some .local) (hne : par ≠ "self") (hne2 : par2 ≠ "self") (hnp : par ≠ par2) (hff : fld ≠ fld2) (hpd : (par == ("__debug__" : Str)) = false) (hpd2 : (par2 == ("__debug__" : Str)) = false)
    (hsw : ∀ env, swapsWith (.Name par p8) (some (.Attribute (.Name "self" p6) fld p7)) p9.line env = pure false) (hsw3 : ∀ env, swapsWith (.Name par2 q8) (some (.Attribute (.Name "self" q6) fld2 q7)) q9.line env = pure false) (hsw2 : ∀ env, swapsWith (.Call (.Attribute (.Call (.Name "super" p0) [] [] p1) "__init__" p2) [.Constant (.str msg) j p3] [] p4) none p5.line env = pure false)
    (hev : ∀ env, eval (.Call (.Attribute (.Call (.Name "super" p0) [] [] p1) "__init__" p2) [.Constant (.str msg) j p3] [] p4) env = (do
      let ov ← attributeBase (.Call (.Name "super" p0) [] [] p1) "__init__" env (eval (.Call (.Name "super" p0) [] [] p1) env)
      standAt p2.atName
      let (f, first) ← holding [ov] (getMethod ov "__init__" (pl env))
      callWith p4 f first (backTo p4 (starEach [.Constant (.str msg) j p3] env)) []))
    (hc : X.calm = true := by rfl) (hg : Gl X c := by rfl) (hdb : (c == ("__debug__" : Str)) = false := by decide) (hst : starEach (e :: es) X.env = (false, eval e X.env) :: starEach es X.env := by rfl) (hpl : (backTo ppos (starEach es X.env)).any (·.1) = false := by rfl) :
    PS X (.Raise (some (.Call (.Name c pp) (e :: es) [] ppos)) none ppos') (dRsI2 X.K c fld fld2 W ta) := by
  obtain ⟨fd, D⟩ := D
  have F1 : FnOk X.prog X.w X.K X.mg X.base (L2.CX X.prog X.w) 0 fI fd ["self", par, par2] (spXi2 X.K c fld fld2) := xi2_ok D hms hbody hp hk hco hgen hcell hks hkc hka hkp hkp2 hne hne2 hnp hff hpd hpd2 hsw hsw3 hsw2 hev
  have hb : Binds X.K fd ["self", par, par2] [] := by
    obtain ⟨oc, od, osl, kV, doc, pm, an, cda, ct, cc, rfl, _⟩ := D.fn
    exact Binds.all fun us hl => hbind _ _ _ _ _ _ _ us hl
  have pm := pmk_oex (X := X) (p := pp) (pos := ppos) D.oex D.ini D.tI F1 hr hb .nil (fun _ _ _ _ _ _ _ h => by
    obtain ⟨_, _, _, _, _, _, _, _, _, _, _, _, z⟩ := h
    exact z.elim) hg gC (pa_up ha) hdb hst hpl
  refine PS.of (ps_raise hc tk pm) fun DD σ H q => ⟨_, q, fun vs H1 r => ?_⟩
  obtain ⟨⟨v, u, rfl, q⟩⟩ := r
  refine ⟨show 2 ≤ 1000 by decide, fun a ha => ⟨a, v, u, rfl, upd_same, fun dx hdx hne => ⟨rfl, dx, [(fld2, u), (fld, v)], upd_same, by rw [upd_ne hne, upd_same], ?_, ?_⟩⟩⟩
  · rw [upd_ne hne] at hdx; exact hdx
  · rw [upd_ne hne] at hdx
    rw [xi2_heap ha hdx hne]
    exact q.go dx hdx
end S
namespace S
open PySem PySem.Spec PyProof.Rows L2
end S
namespace S
open PySem PySem.Spec PyProof.Rows L2
end S
namespace S
open PySem PySem.Spec PyProof.Rows L2
end S
namespace S
open PySem PySem.Spec PyProof.Rows L2
end S
namespace S
open PySem PySem.Spec PyProof.Rows L2
end S
namespace S
open PySem PySem.Spec PyProof.Rows L2
section
variable {P : Program} {w : World} {A : Around} {E : Value → Shared → Prop} {s : Shared}
end
section
variable {X : Cx}
end
end S
namespace S
open PySem PySem.Spec PyProof.Rows L2
end S
namespace S
open PySem PySem.Spec PyProof.Rows L2
/-! ### kinds of keys -/
structure Dk (κ : Type) [DecidableEq κ] where
  kd : ∀ (P : Program) (w : World), KeyKind P w κ
  kv : κ → V
  rel : ∀ P w k u, (kd P w).is k u = true ↔ RelV (kv k) u
  conv : ∀ {P w P' w'} {h : Heap} {a : Addr} {vs : List (κ × Value)}, h.DictOf (kd P w) a vs → h.DictOf (kd P' w') a vs
def obIs : Option Bool → Value → Bool
  | none, .none => true
  | some b, .bool c => decide (c = b)
  | _, _ => false
def obL : Option Bool → Leaf
  | none => .none
  | some b => .num (if b = true then 1 else 0)
def obV : Option Bool → V
  | none => .non
  | some b => .bl b
theorem obIs_leaf {k : Option Bool} {v : Value} (h : obIs k v = true) : Leaf.isOf (obL k) v = true := by
  cases k with
  | none => cases v <;> first | rfl | exact absurd h Bool.false_ne_true
  | some b =>
    cases v <;> try exact absurd h Bool.false_ne_true
    rename_i c
    have e : c = b := of_decide_eq_true h
    subst e
    exact decide_eq_true rfl
theorem obL_inj {a b : Option Bool} (h : obL a = obL b) : a = b := by
  cases a with
  | none => cases b with
    | none => rfl
    | some y => cases h
  | some x => cases b with
    | none => cases h
    | some y => cases x <;> cases y <;> first | rfl | (injection h with h; revert h; decide)
theorem obL_dec (a b : Option Bool) : decide (obL a = obL b) = decide (a = b) := decide_eq_decide.mpr ⟨obL_inj, fun e => by rw [e]⟩
def obH : Option Bool → Int
  | none => reduceHash 0xFCA86420
  | some b => hashInt (if b = true then 1 else 0)
theorem obH_eq (w : World) (k : Option Bool) : (obL k).key.hash w = obH k := by cases k <;> rfl
def obKind (P : Program) (w : World) : KeyKind P w (Option Bool) where
  is := obIs
  hash := obH
  inj := fun v a b ha hb => obL_inj ((leafKind P w).inj v _ _ (obIs_leaf ha) (obIs_leaf hb))
  byValue := fun k v h => (leafKind P w).byValue _ v (obIs_leaf h)
  pyHash := fun hv h => (leafKind P w).pyHash (obIs_leaf hv) (by rw [show (leafKind P w).hash _ = _ from obH_eq w _]; exact h)
  eqBool := fun hu hv h => (leafKind P w).eqBool (obIs_leaf hu) (obIs_leaf hv) (by rw [obL_dec]; exact h)
  «strs» := fun k x t v h => by cases k <;> exact absurd h Bool.false_ne_true
theorem pairs_conv {κ : Type} [DecidableEq κ] {P P' : Program} {w w' : World} {k1 : KeyKind P w κ} {k2 : KeyKind P' w' κ} (e : k1.is = k2.is) {es : List DictEntry} {vs : List (κ × Value)} (h : Pairs k1 es vs) : Pairs k2 es vs := by
  induction h with
  | nil => exact .nil
  | cons a b c ih => exact .cons (by rw [← e]; exact a) b ih
def kB : Dk (Option Bool) where
  kd := obKind
  kv := obV
  rel := fun P w k u => by
    cases k with
    | none => exact ⟨fun h => (by cases u <;> first | rfl | exact absurd h Bool.false_ne_true : u = Value.none), fun h => by rw [show u = Value.none from h]; rfl⟩
    | some b => exact ⟨fun h => (by cases u <;> first | exact congrArg Value.bool (of_decide_eq_true h) | exact absurd h Bool.false_ne_true : u = Value.bool b), fun h => by rw [show u = Value.bool b from h]; exact decide_eq_true rfl⟩
  conv := fun {P w P' w' h a vs} d => let ⟨o, es, ep, h1, h2, h3, h4, h5, h6⟩ := d; ⟨o, es, ep, h1, h2, h3, h4, pairs_conv (k1 := obKind P w) (k2 := obKind P' w') rfl h5, h6⟩
section
variable {κ : Type} [DecidableEq κ] {k : Dk κ} {P : Program} {w : World} {H : Hp} {h : Heap} {a : Addr} {kvs : List (κ × V)} {vs : List (κ × Value)}
end
section
variable {X : Cx} {κ : Type} [DecidableEq κ] {k : Dk κ} {pins : List (Addr × Obj)} {σ : L2.St} {H : Hp} {s : Shared} {a : Addr} {kvs : List (κ × V)} {A : Around} {E : Value → Shared → Prop}
end
/-! ### a new one, of whatever keys -/
/-! ### d.setdefault(y, z): what is there; the heap behind it if nothing is -/
section
variable {X : Cx} {pins : List (Addr × Obj)} {σ : L2.St} {H : Hp} {s : Shared} {a : Addr} {A : Around} {E : Value → Shared → Prop}
end
/-! ### len(d) -/
/-! ### list(d) -/
/-! ### for x in reversed(a) -/
/-! ### d[i], i a number -/
end S
namespace S
open PySem PySem.Spec PyProof.Rows L2
structure InU (K : Frag) (H : Hp) (x y : V) (k : Bool → Prop) : Prop where
  ex : ∃ d ds, Dp K H x d ∧ (Dp K H y (.list ds) ∨ Dp K H y (.tuple ds)) ∧ SeqAt.shaped d = true ∧ SeqAt.shaped (.list ds) = true ∧ k (ds.any fun z => PyData.eqv z d)
def oInU (K : Frag) : R2 := fun x y H Q => InU K H x y fun b => Q (.bl b) H
theorem op_inU {X : Cx} (hu : X.A.units + 80 < cLine) : OpR X (compareOp .In) (oInU X.K) := by
  intro pins s σ H x y v u Q I rx ry h
  obtain ⟨d, ds, hd, he, sd, se, q⟩ := h.ex
  obtain ⟨as, r1⟩ := Dp.reads I d x v hd rx
  rcases he with he | he
  · obtain ⟨bs, r2⟩ := Dp.reads I (.list ds) y u he ry
    exact SeqAt.in_list_reads r2 r1 (SeqAt.canLay_of_shaped se) (SeqAt.canLay_of_shaped sd) (PyProof.Rows.room_in_shaped sd (by omega)) ⟨.bl _, H, I, rfl, q⟩
  · obtain ⟨bs, r2⟩ := Dp.reads I (.tuple ds) y u he ry
    exact SeqAt.in_tuple_reads r2 r1 (SeqAt.canLay_of_shaped se) (SeqAt.canLay_of_shaped sd) (PyProof.Rows.room_in_shaped sd (by omega)) ⟨.bl _, H, I, rfl, q⟩
end S
namespace S
open PySem PySem.Spec PyProof.Rows L2
end S
namespace S
open PySem PySem.Spec PyProof.Rows L2
section
variable {X : Cx} {pins : List (Addr × Obj)} {σ : L2.St} {H : Hp} {s : Shared} {u v : Bool} {a b : Addr} {xs ys : List V}
end
/-! ### a new zip -/
end S
namespace S
open PySem PySem.Spec PyProof.Rows L2
section
variable {prog : Program} {w : World} {A : Around} {E : Value → Shared → Prop} {s : Shared}
end
/-! ### pairs (text, number) -/
end S
namespace S
open PySem PySem.Spec PyProof.Rows L2
end S
namespace S
open PySem PySem.Spec PyProof.Rows L2
end S
namespace S
open PySem PySem.Spec PyProof.Rows L2
end S
namespace S
open PySem PySem.Spec PyProof.Rows L2
structure TupO (K : Frag) (H : Hp) (p : Addr) (Q : VK) : Prop where
  ex : (∃ ys, SqL K H p ys ∧ NewTF H ys Q) ∨ (∃ ys, TupF H p ys ∧ Q (.ref p) H)
theorem TupO.l {K : Frag} {H : Hp} {p : Addr} {Q : VK} {ys : List V} (h : SqL K H p ys) (q : NewTF H ys Q) : TupO K H p Q := ⟨.inl ⟨ys, h, q⟩⟩
theorem TupO.t {K : Frag} {H : Hp} {p : Addr} {Q : VK} {ys : List V} (h : TupF H p ys) (q : Q (.ref p) H) : TupO K H p Q := ⟨.inr ⟨ys, h, q⟩⟩
end S
namespace S
open PySem PySem.Spec PyProof.Rows L2
end S
namespace S
open PySem PySem.Spec PyProof.Rows L2
/-! ### for k in EXPR -/
/-! ### d[k] = v -/
/-! ### d.get(k, x) -/
end S
namespace S
open PySem PySem.Spec PyProof.Rows L2
section
variable {P : Program} {w : World} {K : Frag} {mg : Str → Option Value} {base : Heap}
end
section
variable {X : Cx} {x : Str} {p pos : Pos} {k : Nat} {g : Addr} {sp : Sp} {E : L2.St → XK}
end
end S
namespace S
open PySem PySem.Spec PyProof.Rows L2
/-! ### // by any divisor but 0 -/
end S
namespace S
open PySem PySem.Spec PyProof.Rows L2
end S
namespace S
open PySem PySem.Spec PyProof.Rows L2
end S
namespace S
open PySem PySem.Spec PyProof.Rows L2
section
variable {M : Model} {A : Around} {E : Value → Shared → Prop} {s : Shared}
end
section
variable {CX : CXT} {P : Program} {w : World} {K : PySem.W.Frag} {mg : Str → Option Value} {base : Heap} {N ps fr : List Str} {F : NdefX.NF} {f : Addr} {A : Around} {outer : List Env} {s : Shared} {H : Hp} {E : XK} {us : List Value} {vs : List V} {ws : List (Option V)}
end
section
variable {P : Program} {w : World} {K : Frag} {mg : Str → Option Value} {base : Heap} {c nm qual : Str} {params : Arguments} {body rest : List Stmt} {s0 : Stmt} {scope : Scope} {fI g : Addr} {p0 p1 p2 p4 p5 : Pos} {e : Expr} {es : List Expr} {N ps : List Str} {self0 : Str} {k : Nat} {sp sp0 : Sp} {ta : XK → TA} {t0 tr : XK → TS} {pl : Env → Sem Bool}
end
end S
namespace S
open PySem PySem.Spec PyProof.Rows L2
def csT : List Str := []
def nT : Nat := 0
end S


/-! ## short tactics (local rows) -/
open PySem PySem.Spec PyProof.Rows L2 S in
local macro_rules | `(tactic| walk_at "ne") => `(tactic| first | assumption | (apply Ne.symm; assumption) | (apply ne_of_none <;> assumption))
open PySem PySem.Spec PyProof.Rows L2 S in
local macro_rules | `(tactic| walk_at "hp") => `(tactic| first | assumption | exact upd_same | (refine' up_of ?n1 ?h1; (case n1 => walk_at "ne"); (case h1 => walk_at "hp")))
open PySem PySem.Spec PyProof.Rows L2 S in
local macro_rules | `(tactic| walk_at "sx") => `(tactic| first | assumption | exact SameX.refl _ _ | (refine' SameX.put ?h1; (case h1 => walk_at "sx")))
open PySem PySem.Spec PyProof.Rows L2 S in
local macro_rules | `(tactic| walk_at "sl") => `(tactic| first | assumption | (refine' appS ?h1 ?e1; (case h1 => assumption); (case e1 => walk_at "sx")) | (refine' sl_upd ?h1 ?n1; (case n1 => walk_at "ne"); (case h1 => walk_at "sl")))
open PySem PySem.Spec PyProof.Rows L2 S in
local macro_rules | `(tactic| walk_at "st") => `(tactic| first | assumption | (refine' st_upd ?h1 ?n1; (case n1 => walk_at "ne"); (case h1 => walk_at "st")))
open PySem PySem.Spec PyProof.Rows L2 S in
local macro_rules | `(tactic| walk_at "ar") => `(tactic| first | omega | decide | (exact ⟨by decide, by decide⟩) | (exact ⟨by decide, by decide, by decide⟩) | (simp only [CDiv, CPow, CMul]; omega) | (exact .inl (by omega)) | (exact .inr (by omega)) | (simp only [sizeLine_eq, List.length_map, List.length_cons, List.length_nil, List.length_append, List.length_reverse]; omega))
open PySem PySem.Spec PyProof.Rows L2 S in
local macro_rules | `(tactic| walk_at "rd") => `(tactic| first
  | (refine' Rd.l ?h1 ?h2; (case h1 => walk_at "hp"))
  | (refine' Rd.sl ?h1 ?h2; (case h1 => walk_at "sl"))
  | (refine' Rd.st ?h1 ?h2; (case h1 => walk_at "st"))
  | (refine' Rd.sa ?h1 ?h2; (case h1 => assumption))
  | (refine' S.At.of ?h1 ?h2; (case h1 => (first | rfl | assumption)))
  | (refine' Ls.of ?h1 ?h2; (case h1 => walk_at "hp"))
  | (refine' IsL.of ?h1 ?h2; (case h1 => walk_at "hp"))
  | (refine' Pl.of ?h1 ?h2; (case h1 => rfl))
  | (refine' Need.mk ?h1 ?h2; (case h1 => walk_at "ar")))
open PySem PySem.Spec PyProof.Rows L2 S in
local macro_rules | `(tactic| walk_at "go") => `(tactic| (repeat walk_at "rd"))
open PySem PySem.Spec PyProof.Rows L2 S in
local macro_rules | `(tactic| walk_at "gx") => `(tactic| (repeat (first | walk_at "rd" | refine' Stop.mk ?_)))
/-! ## the laws' own harness: draws -/
namespace S
open PySem PySem.Spec PyProof.Rows L2
theorem at_ints {ns : List Int} {i : Int} (h0 : 0 ≤ i) (h1 : i < ns.length) : ∃ x, atI (ns.map V.int) i = some (.int x) := by
  obtain ⟨j, rfl⟩ := Int.eq_ofNat_of_zero_le h0
  have hl : j < ns.length := by omega
  refine ⟨ns[j], atI_nat ?_⟩
  rw [List.getElem?_map, List.getElem?_eq_getElem hl]
  rfl
/-- the state of the draws: place, left, number, kind -/
def DrawSt (l : List V) : Prop := ∃ a b n k : Int, l = [.int a, .int b, .int n, .int k] ∧ 0 ≤ a ∧ 0 ≤ n ∧ (b = 0 ∨ k = 2 ∨ n < 10 ^ 18)
/-- the script at a: the calls leave it -/
def ScrAt (K : Frag) (H : Hp) (a st : Addr) (ns : List Int) : Prop := (a ≠ st ∧ SqL K H a (ns.map V.int)) ∨ ∀ H', SqL K H' a (ns.map V.int)
/-- the script at a, the state at st -/
structure Ctx (K : Frag) (H : Hp) (a st : Addr) : Prop where
  scr : ∃ ns : List Int, ScrAt K H a st ns
  stt : ∃ l, H st = some (.lst l) ∧ DrawSt l
theorem ScrAt.sl {K : Frag} {H : Hp} {a st : Addr} {ns : List Int} (h : ScrAt K H a st ns) : SqL K H a (ns.map V.int) := by
  rcases h with ⟨_, h⟩ | h
  · exact h
  · exact h H
theorem ScrAt.x {K : Frag} {H H' : Hp} {a st : Addr} {ns : List Int} (h : ScrAt K H a st ns) (e : SameX st H H') : ScrAt K H' a st ns := by
  rcases h with ⟨n, h⟩ | h
  · exact .inl ⟨n, e.seq h n⟩
  · exact .inr h
theorem ScrAt.same {K : Frag} {H H' : Hp} {a st : Addr} {ns : List Int} (h : ScrAt K H a st ns) (e : Same H H') : ScrAt K H' a st ns := h.x (Same.x e)
theorem Ctx.same {K : Frag} {H H' : Hp} {a st : Addr} (c : Ctx K H a st) (e : Same H H') : Ctx K H' a st := by
  obtain ⟨⟨ns, h⟩, l, hl, d⟩ := c
  exact ⟨⟨ns, h.same e⟩, l, e _ _ hl, d⟩
def sp__law_draw (K : Frag) : Sp := fun vs H Q _ => ∃ (a st : Addr) (base : Int), vs = [.ref a, .ref st, .int base] ∧ Ctx K H a st ∧ 0 < base ∧
  ∀ (r : Int) (H' : Hp), 0 ≤ r → r < base → Ctx K H' a st → SameX st H H' → Q (.int r) H'
/-- a list made behind H0 may change -/
theorem SameX.mut {st : Addr} {H0 H1 : Hp} {p : Addr} {o : HO} (e : SameX st H0 H1) (n : H0 p = none) : SameX st H0 (L2.upd H1 p o) := fun b u h k => by
  rw [upd_ne (ne_of_none h n)]
  exact e b u h k
theorem Same.mut {H0 H1 : Hp} {p : Addr} {o : HO} (e : Same H0 H1) (n : H0 p = none) : Same H0 (upd H1 p o) := fun b u h => by
  rw [upd_ne (ne_of_none h n)]
  exact e b u h
theorem Ctx.mut {K : Frag} {H0 H1 : Hp} {a st p : Addr} {o : HO} (c : Ctx K H1 a st) (e : Ctx K H0 a st) (n : H0 p = none) : Ctx K (L2.upd H1 p o) a st := by
  obtain ⟨⟨ns, h⟩, l, hl, d⟩ := c
  obtain ⟨⟨ns0, h0⟩, l0, hl0, d0⟩ := e
  have n1 : st ≠ p := ne_of_none hl0 n
  refine ⟨?_, l, by rw [upd_ne n1]; exact hl, d⟩
  rcases h with ⟨na, h⟩ | h
  · by_cases e : a = p
    · subst e
      rcases h0.sl with (h0 | ⟨_, h0⟩) | h0
      · rw [n] at h0; cases h0
      · rw [n] at h0; cases h0
      · exact ⟨ns0, .inr fun H' => .inr h0⟩
    · exact ⟨ns, .inl ⟨na, sl_upd h e⟩⟩
  · exact ⟨ns, .inr h⟩
/-- ends ascending within a size -/
def Ends (size : Int) (ns : List Int) : Prop := ns.Pairwise (· < ·) ∧ ∀ x ∈ ns, 0 ≤ x ∧ x < size
theorem Ends.snoc {size at_ : Int} {ns : List Int} (h : Ends size ns) (hb : ∀ x ∈ ns, x < at_) (h0 : 0 ≤ at_) (h1 : at_ < size) : Ends size (ns ++ [at_]) := by
  refine ⟨List.pairwise_append.mpr ⟨h.1, List.pairwise_singleton _ _, fun x hx y hy => ?_⟩, fun x hx => ?_⟩
  · rw [List.mem_singleton.mp hy]
    exact hb x hx
  · rcases List.mem_append.mp hx with hx | hx
    · exact h.2 x hx
    · rw [List.mem_singleton.mp hx]
      exact ⟨h0, h1⟩
end S
-- deps: D0
/-! ## data compared, isinstance -/
namespace S
open PySem PySem.Spec PyProof.Rows L2
theorem dp_ints {K : Frag} {H : Hp} : ∀ ns : List Int, DpAll K H (ns.map V.int) (ns.map PyData.int)
  | [] => .nil
  | n :: r => .cons (.int n) (dp_ints r)
theorem can_ints : ∀ ns : List Int, PyData.canLayAll0 (ns.map PyData.int) = true
  | [] => rfl
  | n :: r => by
    show (PyData.canLay0 (.int n) && PyData.canLayAll0 (r.map PyData.int)) = true
    rw [can_ints r]; rfl
theorem dep_ints : ∀ ns : List Int, PyData.depthAll (ns.map PyData.int) = 0
  | [] => rfl
  | n :: r => by
    show max (PyData.depth (.int n)) (PyData.depthAll (r.map PyData.int)) = 0
    rw [dep_ints r]; rfl
theorem shp_ints (ns : List Int) : SeqAt.shaped (.list (ns.map PyData.int)) = true := by
  unfold SeqAt.shaped
  have e1 : PyData.canLay0 (.list (ns.map PyData.int)) = true := can_ints ns
  have e2 : PyData.depth (.list (ns.map PyData.int)) = 1 := by show PyData.depthAll _ + 1 = 1; rw [dep_ints]
  rw [e1, e2]; rfl
theorem eqv_ints : ∀ xs ys : List Int, PyData.eqvAll (xs.map PyData.int) (ys.map PyData.int) = decide (xs = ys)
  | [], [] => rfl
  | [], _ :: _ => by simp [PyData.eqvAll]
  | _ :: _, [] => by simp [PyData.eqvAll]
  | x :: xs, y :: ys => by
    show (PyData.eqv (.int x) (.int y) && PyData.eqvAll (xs.map PyData.int) (ys.map PyData.int)) = _
    rw [eqv_ints xs ys]
    show ((x == y) && decide (xs = ys)) = _
    by_cases h : x = y <;> by_cases h2 : xs = ys <;> simp [h, h2]
theorem eqd_ll {K : Frag} {H : Hp} {a b : Addr} {xs ys : List Int} {k : Bool → Prop} (h : SqL K H a (xs.map V.int)) (h2 : SqL K H b (ys.map V.int)) (q : k (decide (xs = ys))) : EqD K H (.ref a) (.ref b) k :=
  ⟨_, _, .lst h (dp_ints xs), .lst h2 (dp_ints ys), shp_ints xs, shp_ints ys, by
    have e : PyData.eqv (.list (xs.map PyData.int)) (.list (ys.map PyData.int)) = decide (xs = ys) := eqv_ints xs ys
    rw [e]; exact q⟩
theorem isi_tup {K : Frag} {H : Hp} {p : Addr} {xs : List V} {k : Bool → Prop} (h : SqT K H p xs) (q : k true) : Isi K H (.ref p) (.type "tuple") k := by
  rcases h with (h | ⟨o, h⟩) | ⟨o, its, n, h1, h2, _⟩
  · exact Isi.of (.base (.tup h)) rfl q
  · exact Isi.of (.fTuple h) rfl q
  · exact Isi.of (.kTuple h1 h2) rfl q
theorem map_filter_ints {ns : List Int} (pr : V → Bool) (f : V → V) (p2 : Int → Bool) (f2 : Int → Int) (hp : ∀ i, pr (.int i) = p2 i) (hf : ∀ i, f (.int i) = .int (f2 i)) : ((ns.map V.int).filter pr).map f = ((ns.filter p2).map f2).map V.int := by
  induction ns with
  | nil => rfl
  | cons x r ih =>
    simp only [List.map_cons, List.filter_cons, hp]
    by_cases h : p2 x = true
    · simp only [h, if_true, List.map_cons, hf, ih]
    · rw [if_neg h, if_neg h]; exact ih
theorem Ends.drop {size : Int} {ns : List Int} (h : Ends size ns) (k : Nat) : Ends size (ns.drop k) := ⟨h.1.sublist (List.drop_sublist k ns), fun x hx => h.2 x (List.mem_of_mem_drop hx)⟩
theorem Ends.filter {size : Int} {ns : List Int} (h : Ends size ns) (p : Int → Bool) : Ends size (ns.filter p) := ⟨h.1.filter p, fun x hx => h.2 x ((List.mem_filter.mp hx).1)⟩
theorem Ends.up {size : Int} {ns : List Int} (h : Ends size ns) : Ends size ((ns.filter fun x => decide (x + 1 < size)).map fun x => x + 1) := by
  refine ⟨List.pairwise_map.mpr ((h.1.filter _).imp fun {a b} hab => by omega), fun x hx => ?_⟩
  obtain ⟨y, hy, rfl⟩ := List.mem_map.mp hx
  have h1 := (List.mem_filter.mp hy)
  have h2 := h.2 y h1.1
  have h3 : y + 1 < size := of_decide_eq_true h1.2
  omega
theorem ctx0 {K : Frag} {H : Hp} {a st : Addr} {ns : List Int} (h : SqL K H a (ns.map V.int)) (hs : H st = none) (l : List V) (d : DrawSt l) : Ctx K (upd H st (.lst l)) a st := by
  refine ⟨⟨ns, ?_⟩, _, upd_same, d⟩
  rcases h with h | h
  · have ne : a ≠ st := by
      rintro rfl
      rcases h with h | ⟨_, h⟩
      · rw [hs] at h; cases h
      · rw [hs] at h; cases h
    exact .inl ⟨ne, sl_upd (.inl h) ne⟩
  · exact .inr fun H' => .inr h
theorem ctx_st {K : Frag} {H : Hp} {a st : Addr} (c : Ctx K H a st) : ∃ l, H st = some (.lst l) := let ⟨_, l, h, _⟩ := c; ⟨l, h⟩
theorem ctx_ne {K : Frag} {H : Hp} {a st p : Addr} (c : Ctx K H a st) (n : H p = none) : p ≠ st := by
  obtain ⟨l, h⟩ := ctx_st c
  exact (ne_of_none h n).symm
theorem pw_lt {ns : List Int} (h : ns.Pairwise (· < ·)) {i j : Nat} {x y : Int} (hij : i < j) (hx : ns[i]? = some x) (hy : ns[j]? = some y) : x < y := by
  obtain ⟨h1, rfl⟩ := List.getElem?_eq_some_iff.mp hx
  obtain ⟨h2, rfl⟩ := List.getElem?_eq_some_iff.mp hy
  exact List.pairwise_iff_getElem.mp h i j h1 h2 hij
end S
-- deps: D0 D1
/-! ## comprehensions with a filter over a range -/
namespace S
open PySem PySem.Spec PyProof.Rows L2
theorem lc_rngF {m i : Nat} {tt : TT} {te : TE} {vs : List Nat} {σ : L2.St} {H1 : Hp} {Q : VK} (pz : Nat → Bool) (f : Nat → Int) (hz : m < sizeLine)
    (hs : ∀ (j : Nat) (H : Hp) (A : V → Hp → Prop) (B : Hp → Prop), j < m → Same H1 H → (pz j = true → A (.int (f j)) H) → (pz j = false → B H) → wipe ((wipe σ vs).set i (some (.int j))) vs = wipe σ vs ∧ tt ((wipe σ vs).set i (some (.int j))) H fun b H3 => if b = true then te ((wipe σ vs).set i (some (.int j))) H3 A else B H3)
    (hd : ∀ D H', H1 D = none → H' D = some (.lst ((((List.range m).filter pz).map f).map V.int)) → Same H1 H' → Q (.ref D) H') :
    Wr (LcGo (gName i) tt te vs σ Q) (Itr 0 m) H1 := by
  refine ⟨fun D hD => ?_⟩
  refine lc_range (lo := 0) (Qd := fun H => Q (.ref D) H) (fun j H => H D = some (.lst ((((List.range j).filter pz).map f).map V.int)) ∧ Same H1 H) ⟨upd_same, same_new hD⟩ ?_ ?_
  · rintro j H hj ⟨h1, e⟩
    show gName i (.int (0 + (j : Int))) (wipe σ vs) H _
    rw [Int.zero_add]
    have rs : List.range (j + 1) = List.range j ++ [j] := List.range_succ
    refine hs j H _ _ hj e (fun hp => ?_) (fun hp => ?_)
    · refine ⟨_, h1, ?_, ?_, fun b o hb => ?_⟩
      · have : ((List.range j).filter pz).length ≤ (List.range j).length := List.length_filter_le _ _
        rw [List.length_range] at this
        rw [List.length_map, List.length_map]; omega
      · rw [upd_same, rs, List.filter_append, List.filter_cons_of_pos hp, List.filter_nil, List.map_append, List.map_append]; rfl
      · rw [upd_ne (ne_of_none hb hD)]
        exact e _ _ hb
    · refine ⟨?_, e⟩
      rw [rs, List.filter_append, List.filter_cons_of_neg (by rw [hp]; exact Bool.false_ne_true), List.filter_nil, List.append_nil]
      exact h1
  · rintro H ⟨h1, e⟩
    exact hd D H hD h1 e
end S
-- deps: D0 D1
/-! ## lists of numbers made, joined, comprehended -/
namespace S
open PySem PySem.Spec PyProof.Rows L2
section
variable {K : Frag} {H : Hp} {Q : VK}
theorem lc_ints {p : Addr} {g : TG} {tt : TT} {te : TE} {vs : List Nat} {σ : L2.St} (as : List Int) (f : Int → Int) (pr : Int → Bool) (hx : SqA K H p (as.map V.int)) (hz : as.length ≤ 100000)
    (hs : ∀ i H' (A : V → Hp → Prop) (B : Hp → Prop), i ∈ as → Same H H' → (∀ H2, Same H' H2 → pr i = true → A (.int (f i)) H2) → (∀ H2, Same H' H2 → pr i = false → B H2) →
      g (.int i) (wipe σ vs) H' fun σ2 H2 => wipe σ2 vs = wipe σ vs ∧ tt σ2 H2 fun b H3 => if b = true then te σ2 H3 A else B H3)
    (hd : ∀ D H', H D = none → H' D = some (.lst (((as.filter pr).map f).map V.int)) → Same H H' → Q (.ref D) H') : Walk K H p (Wr (LcGo g tt te vs σ Q)) := by
  refine lc_map (fun v => match v with | .int i => .int (f i) | v => v) (fun v => match v with | .int i => pr i | _ => false) hx (by rw [sizeLine_eq, List.length_map]; omega) ?_ fun D H' nD hD e => ?_
  · intro v H1 A B hm e hA hB
    obtain ⟨i, hi, rfl⟩ := List.mem_map.mp hm
    exact hs i H1 A B hi e hA hB
  · rw [map_filter_ints _ _ pr f (fun _ => rfl) (fun _ => rfl)] at hD
    exact hd D H' nD hD e
end
end S
-- deps: D0 D1
/-! ## names: one to eight small letters -/
namespace S
open PySem PySem.Spec PyProof.Rows L2
def lowC (c : Nat) : Prop := 97 ≤ c ∧ c ≤ 122
instance (c : Nat) : Decidable (lowC c) := by unfold lowC; infer_instance
theorem abc_list : ("abcdefghijklmnopqrstuvwxyz" : Str).cps.toList = (List.range 26).map fun i => i + 97 := by decide
theorem abc_mem (c : Nat) : c ∈ ("abcdefghijklmnopqrstuvwxyz" : Str).cps.toList ↔ lowC c := by
  rw [abc_list]
  unfold lowC
  constructor
  · intro h
    obtain ⟨i, hi, rfl⟩ := List.mem_map.mp h
    have := List.mem_range.mp hi
    omega
  · intro h
    exact List.mem_map.mpr ⟨c - 97, List.mem_range.mpr (by omega), by omega⟩
/-- the text is a name of a column -/
def nameOk (z : Str) : Prop := (∀ c ∈ z.cps.toList, lowC c) ∧ 1 ≤ z.cps.size ∧ z.cps.size ≤ 8
instance (z : Str) : Decidable (nameOk z) := by unfold nameOk; infer_instance
theorem nameOk.ok {z : Str} (h : nameOk z) : PyData.strOk z = true := by
  unfold PyData.strOk
  rw [← Array.all_toList]
  exact List.all_eq_true.mpr fun c hc => by have := (h.1 c hc).2; exact decide_eq_true (by omega)
theorem inV_strs (z : Str) : ∀ L : List Str, inV (.str z) (L.map V.str) = decide (z ∈ L)
  | [] => rfl
  | x :: L => by
    show (eqV (.str x) (.str z) || inV (.str z) (L.map V.str)) = _
    rw [inV_strs z L]
    show ((x == z) || _) = _
    by_cases h : x = z
    · subst h; simp
    · have h2 : ¬ z = x := fun e => h e.symm
      simp [h, h2]
theorem flat_strs : ∀ L : List Str, (L.map V.str).all flatV = true
  | [] => rfl
  | _ :: L => by show (true && (L.map V.str).all flatV) = true; rw [flat_strs L]; rfl
end S
namespace S
open PySem PySem.Spec PyProof.Rows L2
def t_is_name_b1 (K : Frag) (E : XK) : TS :=
    dIfS (dCmpT (oNinT K) (dVar 1) (tC (.str "abcdefghijklmnopqrstuvwxyz"))) (tRet (tC (.bl false))) (tNext)
def t_is_name_1 (K : Frag) (E : XK) : TS :=
    tRet (dChain oLe oLe (tC (.int 1)) (tCB (cLen K) (tCons (dVar 0) (tNil))) (tC (.int 8)))
def t_is_name (K : Frag) (E : XK) : TS :=
    tSeq (dFor (iTxt (dVar 0)) (gName 1) (t_is_name_b1 K E))
    (stop (t_is_name_1 K E))
end S
-- fn: is_name
-- law: k36
-- txt: text
-- inS: yes
-- deps: Nm D0 D1
namespace S
open PySem PySem.Spec PyProof.Rows L2
def sp_is_name (K : Frag) : Sp := fun vs H Q _ => ∃ z : Str, vs = [.str z] ∧ z.cps.size ≤ 1000 ∧ Q (.bl (decide (nameOk z))) H
theorem pure_is_name {K : Frag} (vs : List V) (H : Hp) (Q : VK) (E : XK) (h : sp_is_name K vs H Q E) : t_is_name K E { nx := fun _ H' => Q .non H', rt := Q } (start ["text", "char"] vs) H := by
  obtain ⟨z, rfl, lz, q⟩ := h
  have hz : z.length ≤ sizeLine := by rw [sizeLine_eq]; show z.cps.size ≤ _; omega
  have hs : z.length = z.cps.size := rfl
  walk_at "gx"
  refine for_txt (fun i σ H1 => H1 = H ∧ (∃ c : Option V, σ = [some (.str z), c]) ∧ ∀ c ∈ z.cps.toList.take i, lowC c) ⟨rfl, ⟨none, rfl⟩, fun _ z => by simp at z⟩ ?_ ?_
  · rintro i c σ H1 hc ⟨rfl, ⟨c0, rfl⟩, hall⟩
    have hc' : z.cps.toList[i]? = some c := by simpa using hc
    walk_at "gx"
    refine ⟨⟨c, rfl, ?_⟩⟩
    refine ifn (fun h => ?_) (fun h => ?_)
    · have e : decide (nameOk z) = false := decide_eq_false fun n => h ((abc_mem c).mpr (n.1 c (List.mem_of_getElem? hc')))
      rw [e] at q
      exact q
    · refine ⟨rfl, ⟨_, rfl⟩, fun d hd => ?_⟩
      rw [List.take_add_one, hc'] at hd
      rcases List.mem_append.mp hd with hd | hd
      · exact hall d hd
      · rw [show d = c by simpa using hd]; exact (abc_mem c).mp h
  · rintro σ H1 ⟨rfl, ⟨c0, rfl⟩, hall⟩
    rw [List.take_of_length_le (by simp)] at hall
    walk_at "gx"
    refine ifd (fun h => ?_) (fun h => ?_)
    · have e : decide (nameOk z) = decide ((z.length : Int) ≤ 8) := decide_eq_decide.mpr ⟨fun n => by have := n.2.2; omega, fun n => ⟨hall, by omega, by omega⟩⟩
      rw [e] at q
      exact q
    · have e : decide (nameOk z) = false := decide_eq_false fun n => by have := n.2.1; omega
      rw [e] at q
      exact q
end S
-- deps: D0 D1
/-! ## pairs of a name and a number -/
namespace S
open PySem PySem.Spec PyProof.Rows L2
abbrev XE (K : Frag) (x : Str) : Prop := ExF K x ["SliceError"]
abbrev Col : Type := Str × Int
def ColT (K : Frag) (H : Hp) (c : Col) (y : V) : Prop := ∃ a, y = .ref a ∧ SqT K H a [.str c.1, .int c.2]
def Cols (K : Frag) (H : Hp) (ys : List V) (cs : List Col) : Prop := Paired (ColT K H) cs ys
section
variable {K : Frag} {H H' : Hp} {ys zs : List V} {cs ds : List Col}
theorem Cols.same (h : Cols K H ys cs) (e : Same H H') : Cols K H' ys cs := Paired.mapP h fun _ _ ⟨a, h1, h2⟩ => ⟨a, h1, Same.tup e h2⟩
theorem Cols.x {st : Addr} {l : List V} (h : Cols K H ys cs) (e : SameX st H H') (hst : H st = some (.lst l)) : Cols K H' ys cs := Paired.mapP h fun _ _ ⟨a, h1, h2⟩ => ⟨a, h1, e.tup h2 hst⟩
theorem dp_cols : ∀ {ys : List V} {cs : List Col}, Cols K H ys cs → DpAll K H ys (cs.map PySem.W.Datum.toD)
  | _, _, .nil => .nil
  | _, _, .cons ⟨_, e, h⟩ r => by subst e; exact .cons (.tup h (.cons (.str _) (.cons (.int _) .nil))) (dp_cols r)
theorem can_cols : ∀ cs : List Col, (∀ c ∈ cs, PyData.strOk c.1 = true) → PyData.canLayAll0 (cs.map PySem.W.Datum.toD) = true
  | [], _ => rfl
  | c :: r, h => by
    show (PyData.canLayAll0 [.str c.1, .int c.2] && PyData.canLayAll0 (r.map PySem.W.Datum.toD)) = true
    rw [can_cols r fun d hd => h d (List.mem_cons_of_mem _ hd)]
    have := h c (List.mem_cons_self ..)
    simp [PyData.canLayAll0, PyData.canLay0, this]
theorem dep_cols : ∀ cs : List Col, PyData.depthAll (cs.map PySem.W.Datum.toD) ≤ 1
  | [] => Nat.zero_le _
  | c :: r => by
    show max (PyData.depthAll [.str c.1, .int c.2] + 1) (PyData.depthAll (r.map PySem.W.Datum.toD)) ≤ 1
    have := dep_cols r
    have e : PyData.depthAll [.str c.1, .int c.2] = 0 := by simp [PyData.depthAll, PyData.depth]
    rw [e]; omega
theorem shp_cols {cs : List Col} (h : ∀ c ∈ cs, PyData.strOk c.1 = true) : SeqAt.shaped (.list (cs.map PySem.W.Datum.toD)) = true := by
  unfold SeqAt.shaped
  have e1 : PyData.canLay0 (.list (cs.map PySem.W.Datum.toD)) = true := can_cols cs h
  have e2 : PyData.depth (.list (cs.map PySem.W.Datum.toD)) ≤ 64 := by show PyData.depthAll _ + 1 ≤ 64; have := dep_cols cs; omega
  rw [e1, decide_eq_true e2]; rfl
theorem eqd_cols {a b : Addr} {k : Bool → Prop} (h : SqL K H a ys) (h2 : SqL K H b zs) (p : Cols K H ys cs) (p2 : Cols K H zs ds) (s1 : ∀ c ∈ cs, PyData.strOk c.1 = true) (s2 : ∀ c ∈ ds, PyData.strOk c.1 = true) (q : k (decide (cs = ds))) : EqD K H (.ref a) (.ref b) k :=
  ⟨_, _, .lst h (dp_cols p), .lst h2 (dp_cols p2), shp_cols s1, shp_cols s2, by
    have e : PyData.eqv (.list (cs.map PySem.W.Datum.toD)) (.list (ds.map PySem.W.Datum.toD)) = decide (cs = ds) := PySem.W.Datum.eqv cs ds
    rw [e]; exact q⟩
end
end S
-- deps: D0 D1
namespace S
open PySem PySem.Spec PyProof.Rows L2
/-- a loop that leaves all that stood at an older heap H0, where the sequence stood -/
theorem for_seq0 {K : Frag} {p : Addr} {xs : List V} {g : TG} {tb : TS} {D : L2.Ends} {σ : L2.St} {H0 H : Hp} (Pv : Nat → L2.St → Hp → Prop) (hx : SqA K H0 p xs) (e0 : Same H0 H) (h0 : Pv 0 σ H) (hl : ∀ i σ H', Pv i σ H' → Same H0 H')
    (hs : ∀ i x σ H, xs[i]? = some x → Pv i σ H → g x σ H fun σ2 H2 => tb { D with nx := Pv (i + 1), ct := Pv (i + 1), bk := D.nx } σ2 H2) (hd : ∀ σ H, Pv xs.length σ H → D.nx σ H) :
    Walk K H p (LoopR D g tb σ) := by
  rcases hx with hx | hx
  · exact ⟨.inl ⟨⟨xs, e0.seq hx⟩, for_list Pv h0 (fun i σ H' hi q => (hl i σ H' q).seq hx) hs hd⟩⟩
  · exact ⟨.inr ⟨⟨xs, Same.tup e0 hx⟩, for_tup Pv h0 (fun i σ H' hi q => Same.tup (hl i σ H' q) hx) hs hd⟩⟩
/-- a loop over a list that stays in its place -/
theorem for_lst {K : Frag} {p : Addr} {xs : List V} {g : TG} {tb : TS} {D : L2.Ends} {σ : L2.St} {H : Hp} (Pv : Nat → L2.St → Hp → Prop) (hx : H p = some (.lst xs)) (h0 : Pv 0 σ H) (hl : ∀ i σ H', Pv i σ H' → H' p = some (.lst xs))
    (hs : ∀ i x σ H, xs[i]? = some x → Pv i σ H → g x σ H fun σ2 H2 => tb { D with nx := Pv (i + 1), ct := Pv (i + 1), bk := D.nx } σ2 H2) (hd : ∀ σ H, Pv xs.length σ H → D.nx σ H) :
    Walk K H p (LoopR D g tb σ) := ⟨.inl ⟨⟨xs, SqL.of hx⟩, for_list Pv h0 (fun i σ H' hi q => SqL.of (hl i σ H' q)) hs hd⟩⟩
end S
namespace S
open PySem PySem.Spec PyProof.Rows L2
def t_Schemadd_initdd_b1_2 (K : Frag) (E : XK) : TS :=
    tDrop (dML K mApp (dVar 2) (tCons (dTup K (tCons (dVar 4) (tCons (dVar 5) (tNil)))) (tNil)))
def t_Schemadd_initdd_b1_1 (K : Frag) (E : XK) : TS :=
    tSeq (tDrop (dML K mApp (dVar 3) (tCons (dVar 4) (tNil))))
    (stop (t_Schemadd_initdd_b1_2 K E))
def t_Schemadd_initdd_b1 (K : Frag) (E : XK) : TS :=
    tSeq (dIfS (dOr (dNot (dTest K (dCall (sp_is_name K) (EW E) (tCons (dVar 4) (tNil))))) (dOr (dCmpT (oIn K) (dVar 4) (dVar 3)) (dCmpT oLt (dVar 5) (tC (.int 1))))) (dGivS (ExF K "BadSchema" ["SliceError"]) (dRaise K "BadSchema" (WD E))) (tNext))
    (stop (t_Schemadd_initdd_b1_1 K E))
def t_Schemadd_initdd_3 (K : Frag) (E : XK) : TS :=
    dSto K "columns" (tCB (cTuple K) (tCons (dVar 2) (tNil))) (dVar 0)
def t_Schemadd_initdd_2 (K : Frag) (E : XK) : TS :=
    tSeq (dFor (iSeq K (dVar 1)) (gTup K 2 (gCons (gName 4) (gCons (gName 5) (gNil)))) (t_Schemadd_initdd_b1 K E))
    (stop (t_Schemadd_initdd_3 K E))
def t_Schemadd_initdd_1 (K : Frag) (E : XK) : TS :=
    tSeq (tAsg (dLst (tNil)) (gName 3))
    (stop (t_Schemadd_initdd_2 K E))
def t_Schemadd_initdd (K : Frag) (E : XK) : TS :=
    tSeq (tAsg (dLst (tNil)) (gName 2))
    (stop (t_Schemadd_initdd_1 K E))
end S
-- fn: Schema.__init__
-- law: k36
-- deps: is_name Cols Fstay D0 D1
namespace S
open PySem PySem.Spec PyProof.Rows L2
abbrev ScF (K : Frag) : Prop := DF K "Schema" [] ["columns"]
def goodC (cs : List Col) : Prop := (cs.map fun c => c.1).Nodup ∧ ∀ c ∈ cs, nameOk c.1 ∧ 1 ≤ c.2
theorem goodC.ok {cs : List Col} (h : goodC cs) : ∀ c ∈ cs, PyData.strOk c.1 = true := fun c hc => (h.2 c hc).1.ok
theorem Cols.xi {K : Frag} {H H' : Hp} {x C dy : Addr} {as : List (Str × V)} {ys : List V} {cs : List Col} (h : Cols K H ys cs) (e : SameX x H H') (hx : H x = some (.ins C dy as)) : Cols K H' ys cs := Paired.mapP h fun _ _ ⟨a, h1, h2⟩ => ⟨a, h1, by
  rcases h2 with (h | ⟨o, h⟩) | h
  · exact .inl (.inl (e _ _ h (ne_of h hx fun z => by cases z)))
  · exact .inl (.inr ⟨o, e _ _ h (ne_of h hx fun z => by cases z)⟩)
  · exact .inr h⟩
/-- a schema of the columns cs -/
def Sc (K : Frag) (H : Hp) (x : Addr) (cs : List Col) : Prop := ScF K ∧ goodC cs ∧ cs.length ≤ 1000 ∧ ∃ dx u ys, H x = some (.ins (He.ga K "Schema") dx [("columns", .ref u)]) ∧ SqT K H u ys ∧ Cols K H ys cs
theorem Sc.same {K : Frag} {H H' : Hp} {x : Addr} {cs : List Col} (h : Sc K H x cs) (e : Same H H') : Sc K H' x cs := by
  obtain ⟨a, b, l, dx, u, ys, h1, h2, h3⟩ := h
  exact ⟨a, b, l, dx, u, ys, e _ _ h1, Same.tup e h2, h3.same e⟩
theorem Sc.x {K : Frag} {H H' : Hp} {x st : Addr} {cs : List Col} {l : List V} (h : Sc K H x cs) (e : SameX st H H') (hst : H st = some (.lst l)) : Sc K H' x cs := by
  obtain ⟨a, b, ll, dx, u, ys, h1, h2, h3⟩ := h
  exact ⟨a, b, ll, dx, u, ys, e _ _ h1 (ne_of h1 hst fun z => by cases z), e.tup h2 hst, h3.x e hst⟩
def sp_Schemadd_initdd (K : Frag) : Sp := fun vs H Q E => ∃ (H0 : Hp) (x dx q : Addr) (ys : List V) (cs : List Col), vs = [.ref x, .ref q] ∧ ScF K ∧ H0 x = none ∧ H0 dx = none ∧ Same H0 H ∧ H x = some (.ins (He.ga K "Schema") dx []) ∧ SqA K H0 q ys ∧ Cols K H0 ys cs ∧ cs.length ≤ 1000 ∧ (∀ c ∈ cs, c.1.cps.size ≤ 1000) ∧
  (goodC cs → ∀ H', Same H0 H' → Sc K H' x cs → Q .non H') ∧ (¬ goodC cs → XE K "BadSchema" → ∀ H', Same H0 H' → E (.ref (He.ga K "BadSchema")) none H')
def inv_Sc (K : Frag) (H0 : Hp) (x dx q k m : Addr) (cs : List Col) (i : Nat) (σ : L2.St) (H' : Hp) : Prop := ∃ (zs : List V) (a b : Option V), σ = [some (.ref x), some (.ref q), some (.ref k), some (.ref m), a, b] ∧ Same H0 H' ∧ H' x = some (.ins (He.ga K "Schema") dx []) ∧ H' k = some (.lst zs) ∧ Cols K H' zs (cs.take i) ∧ H' m = some (.lst (((cs.take i).map fun c => c.1).map V.str)) ∧ goodC (cs.take i)
theorem nodup_take {α : Type} {L : List α} {i : Nat} {x : α} (h : L.Nodup) (hx : L[i]? = some x) : x ∉ L.take i := fun hm => by
  obtain ⟨j, hj⟩ := List.mem_iff_getElem?.mp hm
  have hjl : j < i := by have := (List.getElem?_eq_some_iff.mp hj).1; rw [List.length_take] at this; omega
  rw [List.getElem?_take_of_lt hjl] at hj
  obtain ⟨l1, g1⟩ := List.getElem?_eq_some_iff.mp hj
  obtain ⟨l2, g2⟩ := List.getElem?_eq_some_iff.mp hx
  exact List.pairwise_iff_getElem.mp h j i l1 l2 hjl (g1.trans g2.symm)
theorem cols_snoc {K : Frag} {H : Hp} {y : V} {c : Col} : ∀ {ys : List V} {cs : List Col}, Cols K H ys cs → ColT K H c y → Cols K H (ys ++ [y]) (cs ++ [c])
  | _, _, .nil, h => .cons h .nil
  | _, _, .cons a t, h => .cons a (cols_snoc t h)
theorem cols_at {K : Frag} {H : Hp} : ∀ {ys : List V} {cs : List Col} {i : Nat} {y : V}, Cols K H ys cs → ys[i]? = some y → ∃ c, cs[i]? = some c ∧ ColT K H c y
  | _, _, i, _, .nil, h => by simp at h
  | _, _, 0, _, .cons h _, e => by
    rw [List.getElem?_cons_zero] at e
    cases e
    exact ⟨_, rfl, h⟩
  | _, _, i + 1, _, .cons _ t, e => by
    rw [List.getElem?_cons_succ] at e
    obtain ⟨x, hx, hp⟩ := cols_at t e
    exact ⟨x, by rw [List.getElem?_cons_succ]; exact hx, hp⟩
theorem pure_Schemadd_initdd {K : Frag} (vs : List V) (H : Hp) (Q : VK) (E : XK) (h : sp_Schemadd_initdd K vs H Q E) : t_Schemadd_initdd K E { nx := fun _ H' => Q .non H', rt := Q } (start ["self", "columns", "kept", "names", "name", "width"] vs) H := by
  obtain ⟨H0, x, dx, q, ys, cs, rfl, sf, nx, ndx, e0, hx, hq, hC, lc, lz, good, bad⟩ := h
  walk_at "gx"
  refine ⟨fun k nk => ?_⟩
  have e1 := same_new (o := .lst ([] : List V)) nk
  have xk : x ≠ k := ne_of_none hx nk
  have hk1 : upd H k (.lst ([] : List V)) k = some (.lst []) := upd_same
  have hx1 := e1 _ _ hx
  have nk0 : H0 k = none := by
    cases ez : H0 k with
    | none => rfl
    | some o => rw [e0 _ _ ez] at nk; cases nk
  have e01 := e0.trans e1
  generalize upd H k (.lst ([] : List V)) = H1 at *
  walk_at "gx"
  refine ⟨fun m nm => ?_⟩
  have e2 := same_new (o := .lst ([] : List V)) nm
  have xm : x ≠ m := ne_of_none hx1 nm
  have km : k ≠ m := ne_of_none hk1 nm
  have nm0 : H0 m = none := by
    cases ez : H0 m with
    | none => rfl
    | some o => rw [e01 _ _ ez] at nm; cases nm
  walk_at "gx"
  refine for_seq0 (H0 := H0) (inv_Sc K H0 x dx q k m cs) hq (e01.trans e2) ⟨[], none, none, rfl, e01.trans e2, e2 _ _ hx1, e2 _ _ hk1, .nil, upd_same, .nil, fun _ z => nomatch z⟩ (fun i σ H' z => let ⟨_, _, _, _, e, _⟩ := z; e) ?_ ?_
  · rintro i y σ H3 hi ⟨zs, a, b, rfl, e3, hx3, hk3, hC3, hm3, hg⟩
    obtain ⟨c, hc, ad, rfl, ht⟩ := cols_at (hC.same e3) hi
    have hcm := List.mem_of_getElem? hc
    have tk : cs.take (i + 1) = cs.take i ++ [c] := by rw [List.take_add_one, hc]; rfl
    have raise : ¬ goodC cs → ∀ D σ, dGivS (ExF K "BadSchema" ["SliceError"]) (dRaise K "BadSchema" (WD E)) D σ H3 := fun hb D σ xf => bad hb xf H3 e3
    refine ⟨ad, _, rfl, ht, rfl, _, _, rfl, _, _, rfl, rfl, ?_⟩
    walk_at "gx"
    refine ⟨c.1, rfl, lz c hcm, ?_⟩
    refine ifn (fun h => raise (fun z => h (z.2 c hcm).1) _ _) (fun h1 => ?_)
    walk_at "gx"
    refine Need.mk ⟨rfl, flat_strs _⟩ ?_
    rw [inV_strs]
    have hc' : (cs.map fun c => c.1)[i]? = some c.1 := by rw [List.getElem?_map, hc]; rfl
    have mt : (cs.take i).map (fun c => c.1) = (cs.map fun c => c.1).take i := List.map_take
    refine ifd (fun h2 => raise (fun z => ?_) _ _) (fun h2 => ?_)
    · rw [mt] at h2
      exact nodup_take z.1 hc' h2
    walk_at "gx"
    refine ifd (fun h3 => raise (fun z => ?_) _ _) (fun h3 => ?_)
    · have := (z.2 c hcm).2
      have h3 : c.2 < 1 := h3
      omega
    have h3 : ¬ c.2 < 1 := h3
    have h1 : nameOk c.1 := h1
    have hg2 : goodC (cs.take (i + 1)) := by
      refine ⟨?_, fun d hd => ?_⟩
      · rw [tk, List.map_append]
        refine List.pairwise_append.mpr ⟨hg.1, List.pairwise_singleton _ _, fun u hu v hv => ?_⟩
        rw [List.mem_singleton.mp hv]
        exact fun z => h2 (by rw [← show u = c.1 from z]; exact hu)
      · rw [tk] at hd
        rcases List.mem_append.mp hd with hd | hd
        · exact hg.2 d hd
        · rw [List.mem_singleton.mp hd]; exact ⟨h1, by omega⟩
    have lt : (cs.take i).length ≤ 1000 := by rw [List.length_take]; omega
    have lm : ((cs.take i).map fun c => c.1).length ≤ 1000 := by rw [List.length_map]; exact lt
    have lm2 : (((cs.take i).map fun c => c.1).map V.str).length < sizeLine := by rw [List.length_map, sizeLine_eq]; omega
    have lzs : zs.length < sizeLine := by rw [← Paired.length hC3, sizeLine_eq]; omega
    walk_at "gx"
    have ex : SameX m H3 (L2.upd H3 m (.lst (((cs.take i).map fun c => c.1).map V.str ++ [V.str c.1]))) := SameX.upd
    have hm4 : L2.upd H3 m (.lst (((cs.take i).map fun c => c.1).map V.str ++ [V.str c.1])) m = some (.lst (((cs.take i).map fun c => c.1).map V.str ++ [V.str c.1])) := upd_same
    have e4 := Same.mut e3 (o := .lst (((cs.take i).map fun c => c.1).map V.str ++ [V.str c.1])) nm0
    refine ⟨fun u H5 e5 hu => ?_⟩
    have hk5 := e5 _ _ (ex _ _ hk3 km)
    have hx5 := e5 _ _ (ex _ _ hx3 xm)
    have hm5 := e5 _ _ hm4
    have hC5 := (hC3.x ex hm3).same e5
    have ex6 : SameX k H5 (L2.upd H5 k (.lst (zs ++ [.ref u]))) := SameX.upd
    walk_at "gx"
    refine ⟨zs ++ [.ref u], _, _, rfl, Same.mut (e4.trans e5) nk0, ex6 _ _ hx5 xk, upd_same, ?_, ?_, hg2⟩
    · rw [tk]
      exact cols_snoc (hC5.x ex6 hk5) ⟨u, rfl, ex6.tup hu hk5⟩
    · rw [ex6 _ _ hm5 (Ne.symm km), tk, List.map_append, List.map_append]
      rfl
  · rintro σ H3 ⟨zs, a, b, rfl, e3, hx3, hk3, hC3, hm3, hg⟩
    rw [← hC.length, List.take_length] at hC3 hg
    walk_at "gx"
    refine ⟨fun u H4 e4 hu => ?_⟩
    have hx4 := e4 _ _ hx3
    walk_at "gx"
    refine Sto.df sf hx4 (by simp) ?_
    refine good hg _ (Same.mut (e3.trans e4) nx) ⟨sf, hg, lc, dx, u, zs, upd_same, ?_, ?_⟩
    · rcases hu with (h | ⟨o, h⟩) | h
      · exact .inl (.inl (by rw [upd_ne (ne_of h hx4 fun z => by cases z)]; exact h))
      · exact .inl (.inr ⟨o, by rw [upd_ne (ne_of h hx4 fun z => by cases z)]; exact h⟩)
      · exact .inr h
    · exact (hC3.same e4).xi SameX.upd hx4
/-- a schema is made -/
theorem mk_schema {K : Frag} {H : Hp} {q : Addr} {ys : List V} {cs : List Col} {R : Addr → Hp → Prop} {E : XK} (sf : ScF K) (hq : SqA K H q ys) (hC : Cols K H ys cs) (lc : cs.length ≤ 1000) (lz : ∀ c ∈ cs, c.1.cps.size ≤ 1000) (good : goodC cs → ∀ x H', Same H H' → H x = none → Sc K H' x cs → R x H')
    (bad : ¬ goodC cs → XE K "BadSchema" → ∀ H', Same H H' → E (.ref (He.ga K "BadSchema")) none H') :
    NewI K H "Schema" fun x H2 => sp_Schemadd_initdd K [.ref x, .ref q] H2 (fun v H3 => v = .non ∧ R x H3) E := by
  refine ⟨fun x dx h1 h2 hne => ?_⟩
  have e : Same H (upd (upd H dx (.own x)) x (.ins (He.ga K "Schema") dx [])) := fun b o h => by
    rw [upd_ne (ne_of_none h h1), upd_ne (ne_of_none h h2)]; exact h
  exact ⟨H, x, dx, q, ys, cs, rfl, sf, h1, h2, e, upd_same, hq, hC, lc, lz, fun ok H' e' hs => ⟨rfl, good ok x H' e' h1 hs⟩, bad⟩
end S
namespace S
open PySem PySem.Spec PyProof.Rows L2
def t_Schema_all_slices (K : Frag) (E : XK) : TS :=
    tRet (dLc2 (iSeq K (dAt K "columns" (dVar 0))) (gTup K 2 (gCons (gName 1) (gCons (gName 2) (gNil)))) (tYes) (iRngB (tCons (tUn uNeg (tC (.int 1))) (tCons (dVar 2) (tNil)))) (gName 3) (tYes) (dTupK (tCons (dVar 1) (tCons (dVar 3) (tNil)))) [1, 2, 3] [3])
end S
-- fn: Schema.all_slices
-- law: k43
-- tupK: yes
-- deps: Schema_init D0 D1
namespace S
open PySem PySem.Spec PyProof.Rows L2
/-- pairs as tracked tuples -/
def ColK (H : Hp) (c : Col) (y : V) : Prop := ∃ a, y = .ref a ∧ H a = some (.tup [.str c.1, .int c.2])
def ColsK (H : Hp) (ys : List V) (cs : List Col) : Prop := Paired (ColK H) cs ys
theorem ColK.t {K : Frag} {H : Hp} {c : Col} {y : V} (h : ColK H c y) : ColT K H c y := let ⟨a, e, h⟩ := h; ⟨a, e, SqT.of h⟩
theorem ColsK.t {K : Frag} {H : Hp} {ys : List V} {cs : List Col} (h : ColsK H ys cs) : Cols K H ys cs := Paired.mapP h fun _ _ h => h.t
theorem ColsK.same {H H' : Hp} {ys : List V} {cs : List Col} (h : ColsK H ys cs) (e : Same H H') : ColsK H' ys cs := Paired.mapP h fun _ _ ⟨a, h1, h2⟩ => ⟨a, h1, e _ _ h2⟩
theorem ColsK.x {st : Addr} {H H' : Hp} {ys : List V} {cs : List Col} {u : HO} (h : ColsK H ys cs) (e : SameX st H H') (hst : H st = some u) (nt : ∀ xs, u ≠ .tup xs) : ColsK H' ys cs := Paired.mapP h fun _ _ ⟨a, h1, h2⟩ => ⟨a, h1, e _ _ h2 (fun z => by subst z; rw [hst] at h2; cases h2; exact nt _ rfl)⟩
theorem colsK_snoc {H : Hp} {y : V} {c : Col} : ∀ {ys : List V} {cs : List Col}, ColsK H ys cs → ColK H c y → ColsK H (ys ++ [y]) (cs ++ [c])
  | _, _, .nil, h => .cons h .nil
  | _, _, .cons a t, h => .cons a (colsK_snoc t h)
theorem colsK_at {H : Hp} : ∀ {ys : List V} {cs : List Col} {i : Nat} {y : V}, ColsK H ys cs → ys[i]? = some y → ∃ c, cs[i]? = some c ∧ ColK H c y
  | _, _, i, _, .nil, h => by simp at h
  | _, _, 0, _, .cons h _, e => by
    rw [List.getElem?_cons_zero] at e
    cases e
    exact ⟨_, rfl, h⟩
  | _, _, i + 1, _, .cons _ t, e => by
    rw [List.getElem?_cons_succ] at e
    obtain ⟨x, hx, hp⟩ := colsK_at t e
    exact ⟨x, by rw [List.getElem?_cons_succ]; exact hx, hp⟩
/-- the slices of a column: the presence (-1), then its places -/
def slicesC (c : Col) (k : Nat) : List Col := (List.range k).map fun j : Nat => (c.1, -1 + (j : Int))
def slicesOf (cs : List Col) : List Col := cs.flatMap fun c => slicesC c (c.2 + 1).toNat
theorem slicesOf_snoc (cs : List Col) (c : Col) : slicesOf (cs ++ [c]) = slicesOf cs ++ slicesC c (c.2 + 1).toNat := by
  unfold slicesOf
  rw [List.flatMap_append]
  simp
theorem slicesC_succ (c : Col) (k : Nat) : slicesC c (k + 1) = slicesC c k ++ [(c.1, -1 + (k : Int))] := by
  unfold slicesC
  rw [List.range_succ, List.map_append]; rfl
def sp_Schema_all_slices (K : Frag) : Sp := fun vs H Q _ => ∃ (x : Addr) (cs : List Col), vs = [.ref x] ∧ Sc K H x cs ∧ (∀ c ∈ cs, c.2 ≤ 1000) ∧ ∀ (d : Addr) (ys : List V) (H' : Hp), Same H H' → H d = none → H' d = some (.lst ys) → ColsK H' ys (slicesOf cs) → Q (.ref d) H'
theorem slicesOf_len : ∀ cs : List Col, (∀ c ∈ cs, c.2 ≤ 1000) → (slicesOf cs).length ≤ 1001 * cs.length
  | [], _ => Nat.zero_le _
  | c :: cs, h => by
    have ih := slicesOf_len cs fun d hd => h d (List.mem_cons_of_mem _ hd)
    have := h c (List.mem_cons_self ..)
    show (slicesC c (c.2 + 1).toNat ++ slicesOf cs).length ≤ _
    unfold slicesC
    rw [List.length_append, List.length_map, List.length_range, List.length_cons]
    omega
theorem pure_Schema_all_slices {K : Frag} (vs : List V) (H : Hp) (Q : VK) (E : XK) (h : sp_Schema_all_slices K vs H Q E) : t_Schema_all_slices K E { nx := fun _ H' => Q .non H', rt := Q } (start ["self", "name", "width", "place"] vs) H := by
  obtain ⟨x, cs, rfl, ⟨sf, hg, lc, dx, u, ys, hx, hu, hC⟩, hw, q⟩ := h
  walk_at "gx"
  refine Atr.df sf hx rfl ?_
  refine lc2_seq (.inr hu) (Same.refl _) fun D hD => ⟨fun i H' => ∃ zs, H' D = some (.lst zs) ∧ ColsK H' zs (slicesOf (cs.take i)) ∧ Same H H', ⟨[], upd_same, by rw [List.take_zero]; exact .nil, same_new hD⟩, fun i H' _ ⟨_, _, _, e⟩ => e, ?_, fun H' ⟨zs, h1, h2, e⟩ => ?_⟩
  · rintro i y H1 hi ⟨zs, h1, h2, e1⟩
    obtain ⟨c, hc, ad, rfl, ht⟩ := cols_at (hC.same e1) hi
    have hcm := List.mem_of_getElem? hc
    have tk : cs.take (i + 1) = cs.take i ++ [c] := by rw [List.take_add_one, hc]; rfl
    have hcw := hw c hcm
    have hc1 := (hg.2 c hcm).2
    have lt := slicesOf_len (cs.take i) fun d hd => hw d (List.mem_of_mem_take hd)
    have lt2 : (cs.take i).length ≤ 1000 := by rw [List.length_take]; omega
    refine ⟨ad, _, rfl, ht, rfl, _, _, rfl, _, _, rfl, rfl, ?_⟩
    refine ⟨rfl, ?_⟩
    refine Need.mk (by omega) ?_
    have en : (c.2 - -1).toNat = (c.2 + 1).toNat := by omega
    show Wr _ (Itr (-1) (c.2 - -1).toNat) H1
    rw [en]
    refine lc2_rng (fun j H' => ∃ zs, H' D = some (.lst zs) ∧ ColsK H' zs (slicesOf (cs.take i) ++ slicesC c j) ∧ Same H H') ⟨zs, h1, by show ColsK H1 zs (slicesOf (cs.take i) ++ []); rw [List.append_nil]; exact h2, e1⟩ ?_ ?_
    · rintro j H2 hj ⟨ws, g1, g2, e2⟩
      refine ⟨rfl, ?_⟩
      refine Need.mk (by rw [sizeLine_eq]; show 2 ≤ 16777216; decide) ?_
      refine ⟨fun t nt => ?_⟩
      have e3 := same_new (o := .tup [.str c.1, .int (-1 + (j : Int))]) nt
      have ht3 : upd H2 t (.tup [.str c.1, .int (-1 + (j : Int))]) t = some (.tup [.str c.1, .int (-1 + (j : Int))]) := upd_same
      refine ⟨ws, e3 _ _ g1, ?_, ws ++ [.ref t], upd_same, ?_, ?_⟩
      · have l1 := Paired.length g2
        have l2 : (slicesC c j).length = j := by unfold slicesC; rw [List.length_map, List.length_range]
        rw [List.length_append, l2] at l1
        rw [sizeLine_eq]
        omega
      · rw [slicesC_succ, ← List.append_assoc]
        have ex : SameX D (upd H2 t (.tup [.str c.1, .int (-1 + (j : Int))])) (upd (upd H2 t (.tup [.str c.1, .int (-1 + (j : Int))])) D (.lst (ws ++ [.ref t]))) := SameX.upd
        exact colsK_snoc ((g2.same e3).x ex (e3 _ _ g1) (fun _ z => by cases z)) ⟨t, rfl, ex _ _ ht3 (fun z => by subst z; rw [e3 _ _ g1] at ht3; cases ht3)⟩
      · exact Same.mut (e2.trans e3) hD
    · rintro H2 ⟨ws, g1, g2, e2⟩
      exact ⟨ws, g1, by rw [tk, slicesOf_snoc]; exact g2, e2⟩
  · rw [← hC.length, List.take_length] at h2
    exact q D zs H' e hD h1 h2
end S
-- deps: D0 D1
/-! ## a bitmap on the heap -/
namespace S
open PySem PySem.Spec PyProof.Rows L2
theorem Same.slt {H H' : Hp} {a C dx : Addr} {vs : List (Option V)} (e : Same H H') (h : SlX.Slt H a C dx vs) : SlX.Slt H' a C dx vs := by
  rcases h with ⟨h, z⟩ | ⟨h, z⟩
  · exact .inl ⟨e _ _ h, z⟩
  · exact .inr ⟨e _ _ h, e _ _ z⟩
theorem slO_lst {a C dx : Addr} {vs : List (Option V)} {xs : List V} : SlX.SlO a C dx vs ≠ .lst xs := fun z => by unfold SlX.SlO at z; cases z
theorem slO_tup {a C dx : Addr} {vs : List (Option V)} {xs : List V} : SlX.SlO a C dx vs ≠ .tup xs := fun z => by unfold SlX.SlO at z; cases z
theorem slO_frz {a C dx : Addr} {vs : List (Option V)} {o : Obj} {u : HO} : SlX.SlO a C dx vs ≠ .frz o u := fun z => by unfold SlX.SlO at z; cases z
theorem SameX.slt {st : Addr} {H H' : Hp} {a C dx : Addr} {vs : List (Option V)} {l : List V} (e : SameX st H H') (hst : H st = some (.lst l)) (h : SlX.Slt H a C dx vs) : SlX.Slt H' a C dx vs := by
  rcases h with ⟨h, z⟩ | ⟨h, z⟩
  · exact .inl ⟨e _ _ h (ne_of h hst (fun y => by cases y)), z⟩
  · exact .inr ⟨e _ _ h (ne_of h hst slO_lst), e _ _ z (ne_of z hst (fun y => by cases y))⟩
/-- all but two objects stays -/
def SameO (x y : Addr) (H H' : Hp) : Prop := ∀ b o, H b = some o → b ≠ x → b ≠ y → H' b = some o
theorem Same.o {x y : Addr} {H H' : Hp} (e : Same H H') : SameO x y H H' := fun b o h _ _ => e b o h
theorem SameO.trans {x y : Addr} {H H1 H2 : Hp} (a : SameO x y H H1) (b : SameO x y H1 H2) : SameO x y H H2 := fun c o h n m => b c o (a c o h n m) n m
theorem SameO.slH {x y C : Addr} {H : Hp} {vs : List (Option V)} : SameO x y H (SlX.slH H x C y vs) := fun b o h n m => by rw [SlX.slH_ne n m]; exact h
theorem SameO.tup {K : Frag} {x y a C : Addr} {H H' : Hp} {xs : List V} {vs : List (Option V)} (e : SameO x y H H') (hx : SlX.Slt H x C y vs) (hy : ∀ o, H y = some o → (∀ ys, o ≠ .tup ys) ∧ ∀ u w, o ≠ .frz u w) (h : SqT K H a xs) : SqT K H' a xs := by
  have nx : ∀ o, H a = some o → (o = .tup xs ∨ ∃ u, o = .frz u (.tup xs)) → a ≠ x ∧ a ≠ y := fun o ho q => by
    refine ⟨fun z => ?_, fun z => ?_⟩
    · subst z
      rcases hx with ⟨h1, _⟩ | ⟨h1, _⟩
      · rw [ho] at h1
        rcases q with q | ⟨u, q⟩ <;> · rw [q] at h1; cases h1
      · rw [ho] at h1
        have h2 := Option.some.inj h1
        rcases q with q | ⟨u, q⟩
        · exact slO_tup (h2.symm.trans q)
        · exact slO_frz (h2.symm.trans q)
    · subst z
      rcases q with q | ⟨u, q⟩
      · exact (hy _ ho).1 _ q
      · exact (hy _ ho).2 _ _ q
  rcases h with (h | ⟨o, h⟩) | h
  · obtain ⟨n, m⟩ := nx _ h (.inl rfl)
    exact .inl (.inl (e _ _ h n m))
  · obtain ⟨n, m⟩ := nx _ h (.inr ⟨_, rfl⟩)
    exact .inl (.inr ⟨o, e _ _ h n m⟩)
  · exact .inr h
abbrev BmF (K : Frag) : Prop := CF K "Bitmap" ["ends", "size"]
/-- a bitmap: its size, its ends -/
def Bm (K : Frag) (H : Hp) (a : Addr) (n : Int) (es : List Int) : Prop := BmF K ∧ 0 ≤ n ∧ Ends n es ∧ ∃ dx p, SlX.Slt H a (He.ga K "Bitmap") dx [some (.ref p), some (.int n)] ∧ SqT K H p (es.map V.int)
theorem Bm.same {K : Frag} {H H' : Hp} {a : Addr} {n : Int} {es : List Int} (h : Bm K H a n es) (e : Same H H') : Bm K H' a n es := by
  obtain ⟨c, h0, hE, dx, p, h1, h2⟩ := h
  exact ⟨c, h0, hE, dx, p, Same.slt e h1, Same.tup e h2⟩
theorem Bm.x {K : Frag} {st : Addr} {H H' : Hp} {a : Addr} {n : Int} {es : List Int} {l : List V} (h : Bm K H a n es) (e : SameX st H H') (hst : H st = some (.lst l)) : Bm K H' a n es := by
  obtain ⟨c, h0, hE, dx, p, h1, h2⟩ := h
  exact ⟨c, h0, hE, dx, p, e.slt hst h1, e.tup h2 hst⟩
end S
-- deps: Schema_all_slices_t Bm D0 D1
/-! ## slices held in a dict -/
namespace S
open PySem PySem.Spec PyProof.Rows L2
def keyC (c : Col) : List Key := [.inr c.1, .inl c.2]
theorem keyC_inj {a b : Col} (h : keyC a = keyC b) : a = b := by
  obtain ⟨a1, a2⟩ := a
  obtain ⟨b1, b2⟩ := b
  unfold keyC at h
  simp only [List.cons.injEq, Sum.inr.injEq, Sum.inl.injEq] at h
  rw [h.1, h.2.1]
theorem slicesC_nodup (c : Col) (k : Nat) : (slicesC c k).Nodup := by
  unfold slicesC
  unfold List.Nodup
  rw [List.pairwise_map]
  exact List.nodup_range.imp fun h e => h (by
    have := congrArg (fun t : Col => t.2) e
    dsimp only at this
    omega)
theorem slicesC_name {c d : Col} {k : Nat} (h : d ∈ slicesC c k) : d.1 = c.1 := by
  obtain ⟨j, _, rfl⟩ := List.mem_map.mp h; rfl
theorem slicesOf_mem {cs : List Col} {d : Col} : d ∈ slicesOf cs ↔ ∃ c ∈ cs, d.1 = c.1 ∧ -1 ≤ d.2 ∧ d.2 < c.2 := by
  unfold slicesOf
  rw [List.mem_flatMap]
  constructor
  · rintro ⟨c, hc, hd⟩
    obtain ⟨j, hj, rfl⟩ := List.mem_map.mp hd
    have := List.mem_range.mp hj
    exact ⟨c, hc, rfl, by dsimp only; omega, by dsimp only; omega⟩
  · rintro ⟨c, hc, h1, h2, h3⟩
    refine ⟨c, hc, List.mem_map.mpr ⟨(d.2 + 1).toNat, List.mem_range.mpr (by omega), ?_⟩⟩
    obtain ⟨d1, d2⟩ := d
    dsimp only at h1 h2 h3 ⊢
    rw [h1]
    congr 1
    omega
theorem slicesOf_nodup : ∀ {cs : List Col}, (cs.map fun c => c.1).Nodup → (slicesOf cs).Nodup
  | [], _ => .nil
  | c :: cs, h => by
    obtain ⟨h1, h2⟩ := List.pairwise_cons.mp h
    show (slicesC c (c.2 + 1).toNat ++ slicesOf cs).Nodup
    refine List.pairwise_append.mpr ⟨slicesC_nodup _ _, slicesOf_nodup h2, fun a ha b hb e => ?_⟩
    subst e
    obtain ⟨d, hd, hn, _⟩ := slicesOf_mem.mp hb
    exact h1 d.1 (List.mem_map.mpr ⟨d, hd, rfl⟩) (by rw [← hn]; exact (slicesC_name ha).symm)
/-- the dict at d holds a bitmap of n rows with the ends he for each slice, in their order -/
def Held (K : Frag) (H : Hp) (d : Addr) (n : Int) (cs : List Col) (he : Col → List Int) : Prop := ∃ kvs : List (List Key × V), H d = some (.dT kvs) ∧ kvs.map (fun t => t.1) = (slicesOf cs).map keyC ∧ ∀ c ∈ slicesOf cs, ∃ b, valV kvs (keyC c) = some (.ref b) ∧ Bm K H b n (he c)
theorem Held.same {K : Frag} {H H' : Hp} {d : Addr} {n : Int} {cs : List Col} {he : Col → List Int} (h : Held K H d n cs he) (e : Same H H') : Held K H' d n cs he := by
  obtain ⟨kvs, h1, h2, h3⟩ := h
  exact ⟨kvs, e _ _ h1, h2, fun c hc => let ⟨b, g1, g2⟩ := h3 c hc; ⟨b, g1, g2.same e⟩⟩
theorem Held.x {K : Frag} {H H' : Hp} {d st : Addr} {n : Int} {cs : List Col} {he : Col → List Int} {l : List V} (h : Held K H d n cs he) (e : SameX st H H') (hst : H st = some (.lst l)) : Held K H' d n cs he := by
  obtain ⟨kvs, h1, h2, h3⟩ := h
  exact ⟨kvs, e _ _ h1 (fun z => by subst z; rw [hst] at h1; cases h1), h2, fun c hc => let ⟨b, g1, g2⟩ := h3 c hc; ⟨b, g1, g2.x e hst⟩⟩
theorem SameX.sltD {H H' : Hp} {q a C2 dx : Addr} {vs : List (Option V)} {kv : List (List Key × V)} (e : SameX q H H') (hq : H q = some (.dT kv)) (h : SlX.Slt H a C2 dx vs) (n : vs ≠ []) : SlX.Slt H' a C2 dx vs := by
  rcases h with ⟨h, z⟩ | ⟨h, z⟩
  · exact absurd z n
  · exact .inr ⟨e _ _ h (ne_of h hq fun y => by unfold SlX.SlO at y; cases y), e _ _ z (ne_of z hq fun y => by cases y)⟩
theorem Bm.xd {K : Frag} {H H' : Hp} {q a : Addr} {n : Int} {es : List Int} {kv : List (List Key × V)} (h : Bm K H a n es) (e : SameX q H H') (hq : H q = some (.dT kv)) : Bm K H' a n es := by
  obtain ⟨c, n0, hE, dx, p, hs, hp⟩ := h
  refine ⟨c, n0, hE, dx, p, e.sltD hq hs (by simp), ?_⟩
  rcases hp with (h | ⟨o, h⟩) | h
  · exact .inl (.inl (e _ _ h (ne_of h hq fun z => by cases z)))
  · exact .inl (.inr ⟨o, e _ _ h (ne_of h hq fun z => by cases z)⟩)
  · exact .inr h
abbrev StoF (K : Frag) : Prop := DF K "Store" [] ["schema", "size", "held", "log"]
/-- a store: its log at l -/
def StO (K : Frag) (H : Hp) (x l d : Addr) (cs : List Col) (n : Int) (he : Col → List Int) (lg : List Col) : Prop := StoF K ∧ 0 ≤ n ∧ (∀ c ∈ cs, c.2 ≤ 1000) ∧ cs.length ≤ 10 ∧ ∃ dx s tl, H x = some (.ins (He.ga K "Store") dx [("schema", .ref s), ("size", .int n), ("held", .ref d), ("log", .ref l)]) ∧ Sc K H s cs ∧ Held K H d n cs he ∧ H l = some (.lst tl) ∧ Cols K H tl lg
theorem StO.same {K : Frag} {H H' : Hp} {x l d : Addr} {cs : List Col} {n : Int} {he : Col → List Int} {lg : List Col} (h : StO K H x l d cs n he lg) (e : Same H H') : StO K H' x l d cs n he lg := by
  obtain ⟨f, n0, w, lc, dx, s, tl, h1, h2, h3, h4, h5⟩ := h
  exact ⟨f, n0, w, lc, dx, s, tl, e _ _ h1, h2.same e, h3.same e, e _ _ h4, h5.same e⟩
/-- another list changes -/
theorem StO.x {K : Frag} {H H' : Hp} {x l d st : Addr} {cs : List Col} {n : Int} {he : Col → List Int} {lg : List Col} {l0 : List V} (h : StO K H x l d cs n he lg) (e : SameX st H H') (hst : H st = some (.lst l0)) (ne : l ≠ st) : StO K H' x l d cs n he lg := by
  obtain ⟨f, n0, w, lc, dx, s, tl, h1, h2, h3, h4, h5⟩ := h
  exact ⟨f, n0, w, lc, dx, s, tl, e _ _ h1 (ne_of h1 hst fun z => by cases z), h2.x e hst, h3.x e hst, e _ _ h4 ne, h5.x e hst⟩
/-- another dict changes -/
theorem StO.xd {K : Frag} {H H' : Hp} {x l d q : Addr} {cs : List Col} {n : Int} {he : Col → List Int} {lg : List Col} {kv : List (List Key × V)} (h : StO K H x l d cs n he lg) (e : SameX q H H') (hq : H q = some (.dT kv)) (ne : d ≠ q) : StO K H' x l d cs n he lg := by
  obtain ⟨f, n0, w, lc, dx, s, tl, h1, ⟨scf, gc, ll, dxs, us, yss, hs, hu, hC⟩, ⟨kvs, hd, hk, hv⟩, h4, h5⟩ := h
  have tup : ∀ {a xs}, SqT K H a xs → SqT K H' a xs := fun h => by
    rcases h with (h | ⟨o, h⟩) | h
    · exact .inl (.inl (e _ _ h (ne_of h hq fun z => by cases z)))
    · exact .inl (.inr ⟨o, e _ _ h (ne_of h hq fun z => by cases z)⟩)
    · exact .inr h
  have cols : ∀ {ys cs}, Cols K H ys cs → Cols K H' ys cs := fun h => Paired.mapP h fun _ _ ⟨a, h1, h2⟩ => ⟨a, h1, tup h2⟩
  refine ⟨f, n0, w, lc, dx, s, tl, e _ _ h1 (ne_of h1 hq fun z => by cases z), ⟨scf, gc, ll, dxs, us, yss, e _ _ hs (ne_of hs hq fun z => by cases z), tup hu, cols hC⟩, ⟨kvs, e _ _ hd ne, hk, fun c hc => ?_⟩, e _ _ h4 (ne_of h4 hq fun z => by cases z), cols h5⟩
  obtain ⟨b, g1, g2⟩ := hv c hc
  exact ⟨b, g1, g2.xd e hq⟩
theorem StO.log {K : Frag} {H : Hp} {x l d : Addr} {cs : List Col} {n : Int} {he : Col → List Int} {lg : List Col} (h : StO K H x l d cs n he lg) : ∃ tl, H l = some (.lst tl) := by
  obtain ⟨f, n0, w, lc, dx, s, tl, h1, h2, h3, h4, h5⟩ := h
  exact ⟨tl, h4⟩
end S
namespace S
open PySem PySem.Spec PyProof.Rows L2
end S
-- fn: _law_in
-- law: k03
-- deps: D0
namespace S
open PySem PySem.Spec PyProof.Rows L2
/-- an odd number of the ends is at most the row -/
def inB (ends : List Int) (row : Int) : Bool := ends.foldl (fun b e => if e ≤ row then !b else b) false
theorem map_get {α : Type} {g : α → V} {ns : List α} {i : Nat} {x : V} (h : (ns.map g)[i]? = some x) : ∃ y, ns[i]? = some y ∧ x = g y := by
  rw [List.getElem?_map] at h
  cases e : ns[i]? with
  | none => rw [e] at h; cases h
  | some y => rw [e] at h; exact ⟨y, rfl, (Option.some.inj h).symm⟩
theorem inB_cons (x : Int) (l : List Int) (row : Int) : inB (x :: l) row = if x ≤ row then !(inB l row) else inB l row := by
  have key : ∀ (l : List Int) (b : Bool), l.foldl (fun b e => if e ≤ row then !b else b) (!b) = !(l.foldl (fun b e => if e ≤ row then !b else b) b) := by
    intro l
    induction l with
    | nil => intro b; rfl
    | cons y l ih =>
      intro b
      simp only [List.foldl_cons]
      by_cases h : y ≤ row
      · rw [if_pos h, if_pos h, ih]
      · rw [if_neg h, if_neg h, ih]
  unfold inB
  simp only [List.foldl_cons]
  by_cases h : x ≤ row
  · rw [if_pos h, if_pos h, key]
  · rw [if_neg h, if_neg h]
end S
namespace S
open PySem PySem.Spec PyProof.Rows L2
def t_Bitmapdd_initdd_b1_1 (K : Frag) (E : XK) : TS :=
    tAsg (dVar 4) (gName 3)
def t_Bitmapdd_initdd_b1 (K : Frag) (E : XK) : TS :=
    tSeq (dIfS (dNot (dChainT oLt oLt (dVar 3) (dVar 4) (dVar 1))) (dGivS (ExF K "BadBitmap" ["SliceError"]) (dRaise K "BadBitmap" (WD E))) (tNext))
    (stop (t_Bitmapdd_initdd_b1_1 K E))
def t_Bitmapdd_initdd_4 (K : Frag) (E : XK) : TS :=
    dSto K "ends" (tCB (cTuple K) (tCons (dVar 2) (tNil))) (dVar 0)
def t_Bitmapdd_initdd_3 (K : Frag) (E : XK) : TS :=
    tSeq (dSto K "size" (dVar 1) (dVar 0))
    (stop (t_Bitmapdd_initdd_4 K E))
def t_Bitmapdd_initdd_2 (K : Frag) (E : XK) : TS :=
    tSeq (dIfS (dCmpT oLt (dVar 1) (tC (.int 0))) (dGivS (ExF K "BadBitmap" ["SliceError"]) (dRaise K "BadBitmap" (WD E))) (tNext))
    (stop (t_Bitmapdd_initdd_3 K E))
def t_Bitmapdd_initdd_1 (K : Frag) (E : XK) : TS :=
    tSeq (dFor (iSeq K (dVar 2)) (gName 4) (t_Bitmapdd_initdd_b1 K E))
    (stop (t_Bitmapdd_initdd_2 K E))
def t_Bitmapdd_initdd (K : Frag) (E : XK) : TS :=
    tSeq (tAsg (tUn uNeg (tC (.int 1))) (gName 3))
    (stop (t_Bitmapdd_initdd_1 K E))
end S
-- fn: Bitmap.__init__
-- law: k01
-- deps: Bm _law_in
namespace S
open PySem PySem.Spec PyProof.Rows L2
abbrev XF (K : Frag) (x : Str) : Prop := ExF K x ["SliceError"]
def sp_Bitmapdd_initdd (K : Frag) : Sp := fun vs H Q E => ∃ (x dx p : Addr) (n : Int) (es : List Int), vs = [.ref x, .int n, .ref p] ∧ BmF K ∧ H x = some (.ins (He.ga K "Bitmap") dx []) ∧ H dx = some (.own x) ∧ dx ≠ x ∧ SqA K H p (es.map V.int) ∧
  (0 ≤ n → Ends n es → ∀ H', SameO x dx H H' → Bm K H' x n es → Q .non H') ∧
  (¬ (0 ≤ n ∧ Ends n es) → XF K "BadBitmap" → E (.ref (He.ga K "BadBitmap")) none H)
/-- the ends ahead of i ascend within the size, the last one is last -/
def goodTo (n : Int) (es : List Int) (i : Nat) (last : Int) : Prop := Ends n (es.take i) ∧ (∀ x ∈ es.take i, x ≤ last) ∧ ((i = 0 ∧ last = -1) ∨ last ∈ es.take i)
theorem goodTo_snoc {n : Int} {es : List Int} {i : Nat} {last x : Int} (h : goodTo n es i last) (hx : es[i]? = some x) (h1 : last < x) (h2 : x < n) : goodTo n es (i + 1) x := by
  have e : es.take (i + 1) = es.take i ++ [x] := by rw [List.take_succ, hx]; rfl
  obtain ⟨hE, hl, hm⟩ := h
  have h0 : 0 ≤ x := by
    rcases hm with ⟨_, e⟩ | hm
    · omega
    · have := (hE.2 last hm).1; omega
  refine ⟨?_, fun y hy => ?_, .inr ?_⟩
  · rw [e]
    exact hE.snoc (fun y hy => by have := hl y hy; omega) h0 h2
  · rw [e] at hy
    rcases List.mem_append.mp hy with hy | hy
    · have := hl y hy; omega
    · rw [List.mem_singleton.mp hy]; exact Int.le_refl _
  · rw [e]; exact List.mem_append.mpr (.inr (List.mem_singleton.mpr rfl))
theorem goodTo_bad {n : Int} {es : List Int} {i : Nat} {last x : Int} (h : goodTo n es i last) (hx : es[i]? = some x) (hb : ¬ (last < x ∧ x < n)) : ¬ Ends n es := fun hE => by
  obtain ⟨_, hl, hm⟩ := h
  have hr := hE.2 x (List.mem_of_getElem? hx)
  refine hb ⟨?_, hr.2⟩
  rcases hm with ⟨_, e⟩ | hm
  · omega
  · obtain ⟨j, hj⟩ := List.mem_iff_getElem?.mp hm
    have hj2 : j < i := by
      obtain ⟨hlt, _⟩ := List.getElem?_eq_some_iff.mp hj
      rw [List.length_take] at hlt
      omega
    rw [List.getElem?_take_of_lt hj2] at hj
    exact pw_lt hE.1 hj2 hj hx
theorem pure_Bitmapdd_initdd {K : Frag} (vs : List V) (H : Hp) (Q : VK) (E : XK) (h : sp_Bitmapdd_initdd K vs H Q E) : t_Bitmapdd_initdd K E { nx := fun _ H' => Q .non H', rt := Q } (start ["self", "size", "ends", "last", "end"] vs) H := by
  obtain ⟨x, dx, p, n, es, rfl, hc, hx, hdx, hne, hp, good, bad⟩ := h
  walk_at "gx"
  refine for_seq (fun i σ H1 => H1 = H ∧ ∃ (last : Int) (k : Option V), σ = [some (.ref x), some (.int n), some (.ref p), some (.int last), k] ∧ goodTo n es i last) hp ⟨rfl, -1, none, rfl, ⟨.nil, fun _ z => nomatch z⟩, fun _ z => (nomatch z), .inl ⟨rfl, rfl⟩⟩
    (fun i σ H1 _ z => by rw [z.1]; exact Same.stay (Same.refl _)) ?_ ?_
  · rintro i v σ H1 hi ⟨rfl, last, k, rfl, hg⟩
    obtain ⟨y, hy, rfl⟩ := map_get hi
    walk_at "gx"
    refine ifd (fun h1 => ?_) (fun h1 => ?_)
    · walk_at "gx"
      refine ifn (fun h2 => ?_) (fun h2 => ?_)
      · exact fun xf => bad (fun z => goodTo_bad hg hy (fun z => h2 z.2) z.2) xf
      · exact ⟨rfl, _, _, rfl, goodTo_snoc hg hy h1 h2⟩
    · exact fun xf => bad (fun z => goodTo_bad hg hy (fun z => h1 z.1) z.2) xf
  · rintro σ H1 ⟨rfl, last, k, rfl, hg⟩
    rw [List.length_map] at hg
    have hE : Ends n es := by
      have := hg.1
      rwa [List.take_length] at this
    walk_at "gx"
    refine ifd (fun h1 => ?_) (fun h1 => ?_)
    · exact fun xf => bad (fun z => by omega) xf
    walk_at "gx"
    have s0 : SlX.Slt H1 x (He.ga K "Bitmap") dx [] := .inl ⟨hx, rfl⟩
    refine Sto.sl hc s0 (i := 1) rfl ?_
    have hy0 : ∀ o, H1 dx = some o → (∀ ys, o ≠ .tup ys) ∧ ∀ u w, o ≠ .frz u w := fun o ho => by
      rw [hdx] at ho
      cases ho
      exact ⟨fun _ z => (nomatch z), fun _ _ z => (nomatch z)⟩
    have e1 : SameO x dx H1 (SlX.slH H1 x (He.ga K "Bitmap") dx (SlX.putS 1 (.int n) [])) := SameO.slH
    have hp1 : SqA K (SlX.slH H1 x (He.ga K "Bitmap") dx (SlX.putS 1 (.int n) [])) p (es.map V.int) := by
      rcases hp with hp | hp
      · refine .inl ?_
        rcases hp with (hp | ⟨o, hp⟩) | hp
        · exact .inl (.inl (e1 _ _ hp (ne_of hp hx (fun z => by cases z)) (ne_of hp hdx (fun z => by cases z))))
        · exact .inl (.inr ⟨o, e1 _ _ hp (ne_of hp hx (fun z => by cases z)) (ne_of hp hdx (fun z => by cases z))⟩)
        · exact .inr hp
      · exact .inr (e1.tup s0 hy0 hp)
    walk_at "gx"
    refine ⟨fun t H2 e2 ht => ?_⟩
    walk_at "gx"
    have s1 : SlX.Slt H2 x (He.ga K "Bitmap") dx [none, some (.int n)] := Same.slt e2 (SlX.slH_slt hne)
    refine Sto.sl hc s1 (i := 0) rfl ?_
    have hd2 : H2 dx = some (.xd []) := e2 _ _ (by unfold SlX.slH; rw [upd_ne hne, upd_same])
    have hy2 : ∀ o, H2 dx = some o → (∀ ys, o ≠ .tup ys) ∧ ∀ u w, o ≠ .frz u w := fun o ho => by
      rw [hd2] at ho
      cases ho
      exact ⟨fun _ z => (nomatch z), fun _ _ z => (nomatch z)⟩
    refine good (by omega) hE _ ((e1.trans (Same.o e2)).trans SameO.slH) ⟨hc, by omega, hE, dx, t, SlX.slH_slt hne, SameO.slH.tup s1 hy2 ht⟩
/-- a bitmap is made -/
theorem mk_bitmap {K : Frag} {H : Hp} {n : Int} {es : List Int} {p : Addr} {R : Addr → Hp → Prop} {E : XK} (c : BmF K) (hp : SqA K H p (es.map V.int)) (good : 0 ≤ n → Ends n es → ∀ x H', Same H H' → H x = none → Bm K H' x n es → R x H')
    (bad : ¬ (0 ≤ n ∧ Ends n es) → XF K "BadBitmap" → ∀ H', Same H H' → E (.ref (He.ga K "BadBitmap")) none H') :
    NewI K H "Bitmap" fun x H2 => sp_Bitmapdd_initdd K [.ref x, .int n, .ref p] H2 (fun v H3 => v = .non ∧ R x H3) E := by
  refine ⟨fun x dx h1 h2 hne => ?_⟩
  have e : Same H (upd (upd H dx (.own x)) x (.ins (He.ga K "Bitmap") dx [])) := fun b o h => by
    rw [upd_ne (ne_of_none h h1), upd_ne (ne_of_none h h2)]; exact h
  refine ⟨x, dx, p, n, es, rfl, c, upd_same, by rw [upd_ne hne, upd_same], hne, Same.sqa e hp, fun h0 hE H' eo hb => ⟨rfl, good h0 hE x H' ?_ h1 hb⟩, fun hb xf => bad hb xf _ e⟩
  exact fun b o h => eo b o (e b o h) (ne_of_none h h1) (ne_of_none h h2)
end S
namespace S
open PySem PySem.Spec PyProof.Rows L2
def t_next_end_1 (K : Frag) (E : XK) : TS :=
    tRet (tOp (oIx K) (dVar 2) (dVar 3))
def t_next_end (K : Frag) (E : XK) : TS :=
    tSeq (dIfS (dOr (dCmpT (oEq K) (dVar 3) (tCB (cLen K) (tCons (dVar 2) (tNil)))) (dAnd (dCmpT oLt (dVar 1) (tCB (cLen K) (tCons (dVar 0) (tNil)))) (dCmpT oLt (tOp (oIx K) (dVar 0) (dVar 1)) (tOp (oIx K) (dVar 2) (dVar 3))))) (tRet (tOp (oIx K) (dVar 0) (dVar 1))) (tNext))
    (stop (t_next_end_1 K E))
end S
-- fn: next_end
-- law: k02
-- deps: D0
namespace S
open PySem PySem.Spec PyProof.Rows L2
def nextEnd : List Int → List Int → Int
  | x :: _, [] => x
  | x :: _, y :: _ => if x < y then x else y
  | [], y :: _ => y
  | [], [] => 0
def sp_next_end (K : Frag) : Sp := fun vs H Q _ => ∃ (p q : Addr) (one other : List Int) (i j : Nat), vs = [.ref p, .int (i : Int), .ref q, .int (j : Int)] ∧ SqA K H p (one.map V.int) ∧ SqA K H q (other.map V.int) ∧
  i ≤ one.length ∧ j ≤ other.length ∧ (i < one.length ∨ j < other.length) ∧ Q (.int (nextEnd (one.drop i) (other.drop j))) H
theorem at_map {ns : List Int} {i : Nat} (h : i < ns.length) : atI (ns.map V.int) (i : Int) = some (.int ns[i]) := atI_nat (by rw [List.getElem?_map, List.getElem?_eq_getElem h]; rfl)
theorem pure_next_end {K : Frag} (vs : List V) (H : Hp) (Q : VK) (E : XK) (h : sp_next_end K vs H Q E) : t_next_end K E { nx := fun _ H' => Q .non H', rt := Q } (start ["one", "i", "other", "j"] vs) H := by
  obtain ⟨p, q, one, other, i, j, rfl, hp, hq, hi, hj, hor, k⟩ := h
  walk_at "gx"
  rw [List.length_map]
  refine ifd (fun hjl => ?_) (fun hjl => ?_)
  · have hil : i < one.length := by omega
    have e : other.drop j = [] := List.drop_eq_nil_of_le (by omega)
    have e2 := List.drop_eq_getElem_cons hil
    rw [e, e2] at k
    have hx := at_map hil
    walk_at "gx"
    exact k
  · have hjl2 : j < other.length := by omega
    have e := List.drop_eq_getElem_cons hjl2
    have hy := at_map hjl2
    walk_at "gx"
    rw [List.length_map]
    refine ifd (fun hil => ?_) (fun hil => ?_)
    · have hil2 : i < one.length := by omega
      have hx := at_map hil2
      have e2 := List.drop_eq_getElem_cons hil2
      rw [e, e2] at k
      walk_at "gx"
      refine ifd (fun hlt => ?_) (fun hlt => ?_)
      · walk_at "gx"
        have k2 : Q (.int (if one[i] < other[j] then one[i] else other[j])) H := k
        rw [if_pos hlt] at k2; exact k2
      · walk_at "gx"
        have k2 : Q (.int (if one[i] < other[j] then one[i] else other[j])) H := k
        rw [if_neg hlt] at k2; exact k2
    · have e2 : one.drop i = [] := List.drop_eq_nil_of_le (by omega)
      rw [e, e2] at k
      walk_at "gx"
      exact k
end S
namespace S
open PySem PySem.Spec PyProof.Rows L2
def t_swept_b1_3 (K : Frag) (E : XK) : TS :=
    dIfS (dCmpT (oNe K) (tOp (oIx K) (dVar 2) (tOp (oAdd K) (tOp oMulA (tC (.int 2)) (dVar 6)) (dVar 7))) (dVar 8)) (tSeq (tAsg (tOp oSub (tC (.int 1)) (dVar 8)) (gName 8))
    (tDrop (dML K mApp (dVar 3) (tCons (dVar 9) (tNil))))) (tNext)
def t_swept_b1_2 (K : Frag) (E : XK) : TS :=
    tSeq (dIfS (dAnd (dCmpT oLt (dVar 5) (tCB (cLen K) (tCons (dVar 1) (tNil)))) (dCmpT (oEq K) (tOp (oIx K) (dVar 1) (dVar 5)) (dVar 9))) (tSeq (tAsg (tOp oSub (tC (.int 1)) (dVar 7)) (gName 7))
    (tAsg (tOp (oAdd K) (dVar 5) (tC (.int 1))) (gName 5))) (tNext))
    (stop (t_swept_b1_3 K E))
def t_swept_b1_1 (K : Frag) (E : XK) : TS :=
    tSeq (dIfS (dAnd (dCmpT oLt (dVar 4) (tCB (cLen K) (tCons (dVar 0) (tNil)))) (dCmpT (oEq K) (tOp (oIx K) (dVar 0) (dVar 4)) (dVar 9))) (tSeq (tAsg (tOp oSub (tC (.int 1)) (dVar 6)) (gName 6))
    (tAsg (tOp (oAdd K) (dVar 4) (tC (.int 1))) (gName 4))) (tNext))
    (stop (t_swept_b1_2 K E))
def t_swept_b1 (K : Frag) (E : XK) : TS :=
    tSeq (tAsg (dCall (sp_next_end K) (EW E) (tCons (dVar 0) (tCons (dVar 4) (tCons (dVar 1) (tCons (dVar 5) (tNil)))))) (gName 9))
    (stop (t_swept_b1_1 K E))
def t_swept_4 (K : Frag) (E : XK) : TS :=
    tRet (tCB (cTuple K) (tCons (dVar 3) (tNil)))
def t_swept_3 (K : Frag) (E : XK) : TS :=
    tSeq (dWhile (dOr (dCmpT oLt (dVar 4) (tCB (cLen K) (tCons (dVar 0) (tNil)))) (dCmpT oLt (dVar 5) (tCB (cLen K) (tCons (dVar 1) (tNil))))) (t_swept_b1 K E))
    (stop (t_swept_4 K E))
def t_swept_2 (K : Frag) (E : XK) : TS :=
    tSeq (tAsg3 (tC (.int 0)) (gName 6) (gName 7) (gName 8))
    (stop (t_swept_3 K E))
def t_swept_1 (K : Frag) (E : XK) : TS :=
    tSeq (tAsg2 (tC (.int 0)) (gName 4) (gName 5))
    (stop (t_swept_2 K E))
def t_swept (K : Frag) (E : XK) : TS :=
    tSeq (tAsg (dLst (tNil)) (gName 3))
    (stop (t_swept_1 K E))
end S
-- fn: swept
-- law: k02
-- deps: D0 next_end _law_in
namespace S
open PySem PySem.Spec PyProof.Rows L2
/-- one step of the sweep: at, the bits behind, the bit so far; the ends and the bit -/
def sweepAt (r : Bool → Bool → Bool) (at_ : Int) (f s b : Bool) (rest : List Int) : List Int := if r f s = b then rest else at_ :: rest
def sweep (r : Bool → Bool → Bool) : List Int → List Int → Bool → Bool → List Int
  | [], [], _, _ => []
  | x :: xs, [], f, s => sweepAt r x (!f) s (r f s) (sweep r xs [] (!f) s)
  | [], y :: ys, f, s => sweepAt r y f (!s) (r f s) (sweep r [] ys f (!s))
  | x :: xs, y :: ys, f, s =>
    if x < y then sweepAt r x (!f) s (r f s) (sweep r xs (y :: ys) (!f) s)
    else if x = y then sweepAt r x (!f) (!s) (r f s) (sweep r xs ys (!f) (!s))
    else sweepAt r y f (!s) (r f s) (sweep r (x :: xs) ys f (!s))
  termination_by xs ys => xs.length + ys.length
def ruleV (r : Bool → Bool → Bool) : List V := [.int (b2i (r false false)), .int (b2i (r false true)), .int (b2i (r true false)), .int (b2i (r true true))]
theorem rule_at (r : Bool → Bool → Bool) (f s : Bool) : atI (ruleV r) (2 * b2i f + b2i s) = some (.int (b2i (r f s))) := by
  cases f <;> cases s
  · exact atI_nat (j := 0) rfl
  · exact atI_nat (j := 1) rfl
  · exact atI_nat (j := 2) rfl
  · exact atI_nat (j := 3) rfl
theorem b2i_not (b : Bool) : 1 - b2i b = b2i (!b) := by cases b <;> rfl
def sp_swept (K : Frag) : Sp := fun vs H Q _ => ∃ (p q t : Addr) (one other : List Int) (r : Bool → Bool → Bool), vs = [.ref p, .ref q, .ref t] ∧ SqA K H p (one.map V.int) ∧ SqA K H q (other.map V.int) ∧ SqT K H t (ruleV r) ∧ r false false = false ∧
  one.length ≤ 100000 ∧ other.length ≤ 100000 ∧ ∀ (u : Addr) (H' : Hp), Same H H' → SqT K H' u ((sweep r one other false false).map V.int) → Q (.ref u) H'
/-- between two turns -/
def inv_swept (K : Frag) (H : Hp) (p q t e : Addr) (one other : List Int) (r : Bool → Bool → Bool) (m : Nat) (σ : L2.St) (H1 : Hp) : Prop := ∃ (i j : Nat) (f s : Bool) (L : List Int) (w : Option V),
  σ = [some (.ref p), some (.ref q), some (.ref t), some (.ref e), some (.int (i : Int)), some (.int (j : Int)), some (.int (b2i f)), some (.int (b2i s)), some (.int (b2i (r f s))), w] ∧
  H1 e = some (.lst (L.map V.int)) ∧ Same H H1 ∧ i ≤ one.length ∧ j ≤ other.length ∧ m = (one.length - i) + (other.length - j) ∧ L.length ≤ i + j ∧ L ++ sweep r (one.drop i) (other.drop j) f s = sweep r one other false false
theorem pure_swept {K : Frag} (vs : List V) (H : Hp) (Q : VK) (E : XK) (h : sp_swept K vs H Q E) : t_swept K E { nx := fun _ H' => Q .non H', rt := Q } (start ["one", "other", "rule", "ends", "i", "j", "first", "second", "bit", "at"] vs) H := by
  obtain ⟨p, q, t, one, other, r, rfl, hp, hq, ht, h00, hl1, hl2, k⟩ := h
  walk_at "gx"
  refine ⟨fun e he => ?_⟩
  walk_at "gx"
  refine ⟨inv_swept K H p q t e one other r, ⟨_, 0, 0, false, false, [], none, by rw [h00]; rfl, upd_same, same_new he, Nat.zero_le _, Nat.zero_le _, rfl, Nat.zero_le _, rfl⟩, ?_⟩
  rintro m σ H1 ⟨i, j, f, s, L, w, rfl, hL, hs, hi, hj, rfl, hlen, htot⟩
  have hp1 := Same.sqa hs hp
  have hq1 := Same.sqa hs hq
  have ht1 := Same.tup hs ht
  -- the turn itself
  have turn : ∀ (D : L2.Ends), (i < one.length ∨ j < other.length) → (∀ σ' H', (∃ m', m' < (one.length - i) + (other.length - j) ∧ inv_swept K H p q t e one other r m' σ' H') → D.nx σ' H') →
      t_swept_b1 K E D [some (.ref p), some (.ref q), some (.ref t), some (.ref e), some (.int (i : Int)), some (.int (j : Int)), some (.int (b2i f)), some (.int (b2i s)), some (.int (b2i (r f s))), w] H1 := by
    intro D hor hD
    refine ⟨p, q, one, other, i, j, rfl, hp1, hq1, hi, hj, hor, ?_⟩
    -- behind the two ifs
    have tail : ∀ (i2 j2 : Nat) (f2 s2 : Bool) (at_ : Int), i ≤ i2 → j ≤ j2 → i2 ≤ one.length → j2 ≤ other.length → i + j < i2 + j2 → sweep r (one.drop i) (other.drop j) f s = sweepAt r at_ f2 s2 (r f s) (sweep r (one.drop i2) (other.drop j2) f2 s2) →
        t_swept_b1_3 K E D [some (.ref p), some (.ref q), some (.ref t), some (.ref e), some (.int (i2 : Int)), some (.int (j2 : Int)), some (.int (b2i f2)), some (.int (b2i s2)), some (.int (b2i (r f s))), some (.int at_)] H1 := by
      intro i2 j2 f2 s2 at_ h1 h2 h3 h4 h5 hsw
      have hr := rule_at r f2 s2
      walk_at "gx"
      unfold sweepAt at hsw
      refine ifn (fun hne => ?_) (fun heq => ?_)
      · have hne2 : r f2 s2 ≠ r f s := fun z => hne (by rw [z])
        rw [if_neg hne2] at hsw
        have hnot : r f2 s2 = !(r f s) := by revert hne2; cases r f2 s2 <;> cases r f s <;> simp
        walk_at "gx"
        refine hD _ _ ⟨_, ?_, i2, j2, f2, s2, L ++ [at_], some (.int at_), ?_, ?_, Same.mut hs he, h3, h4, rfl, ?_, ?_⟩
        · omega
        · rw [hnot, ← b2i_not]; rfl
        · rw [List.map_append]; exact upd_same
        · rw [List.length_append]; show L.length + 1 ≤ _; omega
        · rw [List.append_assoc, ← htot, hsw]; rfl
      · have heq2 : r f2 s2 = r f s := by revert heq; cases r f2 s2 <;> cases r f s <;> simp [b2i]
        rw [if_pos heq2] at hsw
        refine hD _ _ ⟨_, ?_, i2, j2, f2, s2, L, some (.int at_), ?_, hL, hs, h3, h4, rfl, by omega, ?_⟩
        · omega
        · rw [heq2]
        · rw [← htot, hsw]
    have e1 : ∀ h : i < one.length, one.drop i = one[i] :: one.drop (i + 1) := fun h => List.drop_eq_getElem_cons h
    have e2 : ∀ h : j < other.length, other.drop j = other[j] :: other.drop (j + 1) := fun h => List.drop_eq_getElem_cons h
    have n1 : ¬ i < one.length → one.drop i = [] := fun h => List.drop_eq_nil_of_le (by omega)
    have n2 : ¬ j < other.length → other.drop j = [] := fun h => List.drop_eq_nil_of_le (by omega)
    by_cases hil : i < one.length
    · have hx := at_map hil
      by_cases hjl : j < other.length
      · have hy := at_map hjl
        rw [e1 hil, e2 hjl]
        have hn : nextEnd (one[i] :: one.drop (i + 1)) (other[j] :: other.drop (j + 1)) = if one[i] < other[j] then one[i] else other[j] := rfl
        rw [hn]
        have hsw : sweep r (one.drop i) (other.drop j) f s = if one[i] < other[j] then sweepAt r one[i] (!f) s (r f s) (sweep r (one.drop (i + 1)) (other[j] :: other.drop (j + 1)) (!f) s)
            else if one[i] = other[j] then sweepAt r one[i] (!f) (!s) (r f s) (sweep r (one.drop (i + 1)) (other.drop (j + 1)) (!f) (!s))
            else sweepAt r other[j] f (!s) (r f s) (sweep r (one[i] :: one.drop (i + 1)) (other.drop (j + 1)) f (!s)) := by
          rw [e1 hil, e2 hjl, sweep]
        by_cases hlt : one[i] < other[j]
        · rw [if_pos hlt]
          rw [if_pos hlt, ← e2 hjl] at hsw
          walk_at "gx"
          rw [List.length_map]
          refine ift (by omega) ?_
          walk_at "gx"
          refine ift rfl ?_
          walk_at "gx"
          rw [List.length_map]
          refine ift (by omega) ?_
          walk_at "gx"
          refine iff' (by omega) ?_
          have z := tail (i + 1) j (!f) s one[i] (by omega) (by omega) (by omega) (by omega) (by omega) hsw
          rw [← b2i_not] at z
          exact Stop.mk z
        · rw [if_neg hlt]
          rw [if_neg hlt] at hsw
          by_cases heq : one[i] = other[j]
          · rw [if_pos heq] at hsw
            walk_at "gx"
            rw [List.length_map]
            refine ift (by omega) ?_
            walk_at "gx"
            refine ift heq ?_
            walk_at "gx"
            rw [List.length_map]
            refine ift (by omega) ?_
            walk_at "gx"
            refine ift rfl ?_
            walk_at "go"
            have z := tail (i + 1) (j + 1) (!f) (!s) other[j] (by omega) (by omega) (by omega) (by omega) (by omega) (by rw [hsw, heq])
            rw [← b2i_not, ← b2i_not] at z
            exact Stop.mk z
          · rw [if_neg heq] at hsw
            rw [← e1 hil] at hsw
            walk_at "gx"
            rw [List.length_map]
            refine ift (by omega) ?_
            walk_at "gx"
            refine iff' heq ?_
            walk_at "gx"
            rw [List.length_map]
            refine ift (by omega) ?_
            walk_at "gx"
            refine ift rfl ?_
            walk_at "go"
            have z := tail i (j + 1) f (!s) other[j] (by omega) (by omega) (by omega) (by omega) (by omega) hsw
            rw [← b2i_not] at z
            exact Stop.mk z
      · have hsw : sweep r (one.drop i) (other.drop j) f s = sweepAt r one[i] (!f) s (r f s) (sweep r (one.drop (i + 1)) (other.drop j) (!f) s) := by
          rw [e1 hil, n2 hjl, sweep]
        have hn : nextEnd (one.drop i) (other.drop j) = one[i] := by rw [e1 hil, n2 hjl]; rfl
        rw [hn]
        walk_at "gx"
        rw [List.length_map]
        refine ift (by omega) ?_
        walk_at "gx"
        refine ift rfl ?_
        walk_at "gx"
        rw [List.length_map]
        refine iff' (by omega) ?_
        have z := tail (i + 1) j (!f) s one[i] (by omega) (by omega) (by omega) (by omega) (by omega) hsw
        rw [← b2i_not] at z
        exact Stop.mk z
    · have hjl : j < other.length := by omega
      have hy := at_map hjl
      have hsw : sweep r (one.drop i) (other.drop j) f s = sweepAt r other[j] f (!s) (r f s) (sweep r (one.drop i) (other.drop (j + 1)) f (!s)) := by
        rw [e2 hjl, n1 hil, sweep]
      have hn : nextEnd (one.drop i) (other.drop j) = other[j] := by rw [e2 hjl, n1 hil]; rfl
      rw [hn]
      walk_at "gx"
      rw [List.length_map]
      refine iff' (by omega) ?_
      walk_at "gx"
      rw [List.length_map]
      refine ift (by omega) ?_
      walk_at "gx"
      refine ift rfl ?_
      walk_at "go"
      have z := tail i (j + 1) f (!s) other[j] (by omega) (by omega) (by omega) (by omega) (by omega) hsw
      rw [← b2i_not] at z
      exact Stop.mk z
  walk_at "gx"
  rw [List.length_map]
  refine ifd (fun hil => ?_) (fun hil => ?_)
  · exact turn _ (.inl (by omega)) fun _ _ z => z
  · walk_at "gx"
    rw [List.length_map]
    refine ifd (fun hjl => ?_) (fun hjl => ?_)
    · exact turn _ (.inr (by omega)) fun _ _ z => z
    · walk_at "gx"
      refine ⟨fun u H2 e2 hu => k u H2 (hs.trans e2) ?_⟩
      have e : L = sweep r one other false false := by
        rw [← htot, List.drop_eq_nil_of_le (by omega), List.drop_eq_nil_of_le (by omega), sweep, List.append_nil]
      rw [← e]; exact hu
/-! ### the law of the sweep -/
theorem inB_before {ns : List Int} {row : Int} (h : ∀ x ∈ ns, row < x) : inB ns row = false := by
  induction ns with
  | nil => rfl
  | cons x r ih =>
    rw [inB_cons, if_neg (by have := h x (List.mem_cons_self ..); omega)]
    exact ih fun y hy => h y (List.mem_cons_of_mem _ hy)
/-- what the sweep holds is behind lo and ascends; at each row its bit -/
theorem sweep_law (r : Bool → Bool → Bool) : ∀ (n : Nat) (xs ys : List Int) (f s : Bool) (lo : Int), xs.length + ys.length ≤ n → xs.Pairwise (· < ·) → ys.Pairwise (· < ·) → (∀ x ∈ xs, lo ≤ x) → (∀ y ∈ ys, lo ≤ y) →
    (sweep r xs ys f s).Pairwise (· < ·) ∧ (∀ z ∈ sweep r xs ys f s, lo ≤ z ∧ (z ∈ xs ∨ z ∈ ys)) ∧ ∀ row, ((r f s) ^^ inB (sweep r xs ys f s) row) = r (f ^^ inB xs row) (s ^^ inB ys row) := by
  intro n
  induction n with
  | zero =>
    intro xs ys f s lo hn _ _ _ _
    cases xs with
    | cons x xs => simp at hn
    | nil =>
      cases ys with
      | cons y ys => simp at hn
      | nil =>
        rw [sweep]
        exact ⟨.nil, fun _ z => (nomatch z), fun row => by simp [inB]⟩
  | succ n ih =>
    -- one step at at_, the smallest of both
    have step : ∀ (xs ys xs2 ys2 : List Int) (f s f2 s2 : Bool) (lo at_ : Int), lo ≤ at_ → xs2.length + ys2.length ≤ n → xs2.Pairwise (· < ·) → ys2.Pairwise (· < ·) → (∀ x ∈ xs2, at_ < x) → (∀ y ∈ ys2, at_ < y) →
        (∀ z, z ∈ xs2 → z ∈ xs) → (∀ z, z ∈ ys2 → z ∈ ys) → (at_ ∈ xs ∨ at_ ∈ ys) →
        (∀ row, at_ ≤ row → (f ^^ inB xs row) = (f2 ^^ inB xs2 row) ∧ (s ^^ inB ys row) = (s2 ^^ inB ys2 row)) → (∀ row, row < at_ → inB xs row = false ∧ inB ys row = false) →
        (sweepAt r at_ f2 s2 (r f s) (sweep r xs2 ys2 f2 s2)).Pairwise (· < ·) ∧ (∀ z ∈ sweepAt r at_ f2 s2 (r f s) (sweep r xs2 ys2 f2 s2), lo ≤ z ∧ (z ∈ xs ∨ z ∈ ys)) ∧
          ∀ row, ((r f s) ^^ inB (sweepAt r at_ f2 s2 (r f s) (sweep r xs2 ys2 f2 s2)) row) = r (f ^^ inB xs row) (s ^^ inB ys row) := by
      intro xs ys xs2 ys2 f s f2 s2 lo at_ hlo hn h1 h2 h3 h4 h5 h6 h7 h8 h9
      obtain ⟨i1, i2, i3⟩ := ih xs2 ys2 f2 s2 (at_ + 1) hn h1 h2 (fun x hx => h3 x hx) (fun y hy => h4 y hy)
      unfold sweepAt
      by_cases he : r f2 s2 = r f s
      · rw [if_pos he]
        refine ⟨i1, fun z hz => ⟨by have := (i2 z hz).1; omega, (i2 z hz).2.imp (h5 z) (h6 z)⟩, fun row => ?_⟩
        by_cases hrow : at_ ≤ row
        · rw [(h8 row hrow).1, (h8 row hrow).2, ← i3 row, he]
        · rw [(h9 row (by omega)).1, (h9 row (by omega)).2, inB_before fun x hx => by have := (i2 x hx).1; omega]
          simp
      · rw [if_neg he]
        refine ⟨List.pairwise_cons.mpr ⟨fun z hz => by have := (i2 z hz).1; omega, i1⟩, fun z hz => ?_, fun row => ?_⟩
        · rcases List.mem_cons.mp hz with rfl | hz
          · exact ⟨hlo, h7⟩
          · exact ⟨by have := (i2 z hz).1; omega, (i2 z hz).2.imp (h5 z) (h6 z)⟩
        · by_cases hrow : at_ ≤ row
          · rw [inB_cons, if_pos hrow, (h8 row hrow).1, (h8 row hrow).2, ← i3 row]
            revert he
            cases r f2 s2 <;> cases r f s <;> cases inB (sweep r xs2 ys2 f2 s2) row <;> simp
          · rw [(h9 row (by omega)).1, (h9 row (by omega)).2, inB_cons, if_neg hrow, inB_before fun x hx => by have := (i2 x hx).1; omega]
            simp
    intro xs ys f s lo hn hx hy lx ly
    cases xs with
    | nil =>
      cases ys with
      | nil =>
        rw [sweep]
        exact ⟨.nil, fun _ z => (nomatch z), fun row => by simp [inB]⟩
      | cons y ys =>
        rw [sweep]
        have hy2 := List.pairwise_cons.mp hy
        refine step [] (y :: ys) [] ys f s f (!s) lo y (ly y (List.mem_cons_self ..)) (by simp at hn ⊢; omega) .nil hy2.2 (fun _ z => nomatch z) hy2.1 (fun _ z => z) (fun z hz => List.mem_cons_of_mem _ hz) (.inr (List.mem_cons_self ..)) (fun row h => ⟨rfl, ?_⟩) fun row h => ⟨rfl, inB_before fun z hz => ?_⟩
        · rw [inB_cons, if_pos h]; cases s <;> cases inB ys row <;> rfl
        · rcases List.mem_cons.mp hz with rfl | hz
          · exact h
          · have := hy2.1 z hz; omega
    | cons x xs =>
      have hx2 := List.pairwise_cons.mp hx
      cases ys with
      | nil =>
        rw [sweep]
        refine step (x :: xs) [] xs [] f s (!f) s lo x (lx x (List.mem_cons_self ..)) (by simp at hn ⊢; omega) hx2.2 .nil hx2.1 (fun _ z => nomatch z) (fun z hz => List.mem_cons_of_mem _ hz) (fun _ z => z) (.inl (List.mem_cons_self ..)) (fun row h => ⟨?_, rfl⟩) fun row h => ⟨inB_before fun z hz => ?_, rfl⟩
        · rw [inB_cons, if_pos h]; cases f <;> cases inB xs row <;> rfl
        · rcases List.mem_cons.mp hz with rfl | hz
          · exact h
          · have := hx2.1 z hz; omega
      | cons y ys =>
        have hy2 := List.pairwise_cons.mp hy
        have before : ∀ {l : List Int} {a b row : Int}, (∀ z ∈ l, a < z) → row < a → inB (a :: l) row = false := fun hl hr => inB_before fun z hz => by
          rcases List.mem_cons.mp hz with rfl | hz
          · exact hr
          · have := hl z hz; omega
        rw [sweep]
        by_cases hlt : x < y
        · rw [if_pos hlt]
          refine step (x :: xs) (y :: ys) xs (y :: ys) f s (!f) s lo x (lx x (List.mem_cons_self ..)) (by simp at hn ⊢; omega) hx2.2 hy hx2.1 (fun z hz => ?_) (fun z hz => List.mem_cons_of_mem _ hz) (fun _ z => z) (.inl (List.mem_cons_self ..)) (fun row h => ⟨?_, rfl⟩) fun row h => ⟨before (b := 0) hx2.1 h, before (b := 0) hy2.1 (by omega)⟩
          · rcases List.mem_cons.mp hz with rfl | hz
            · exact hlt
            · have := hy2.1 z hz; omega
          · rw [inB_cons, if_pos h]; cases f <;> cases inB xs row <;> rfl
        · rw [if_neg hlt]
          by_cases heq : x = y
          · rw [if_pos heq]
            subst heq
            refine step (x :: xs) (x :: ys) xs ys f s (!f) (!s) lo x (lx x (List.mem_cons_self ..)) (by simp at hn ⊢; omega) hx2.2 hy2.2 hx2.1 hy2.1 (fun z hz => List.mem_cons_of_mem _ hz) (fun z hz => List.mem_cons_of_mem _ hz) (.inl (List.mem_cons_self ..)) (fun row h => ⟨?_, ?_⟩) fun row h => ⟨before (b := 0) hx2.1 h, before (b := 0) hy2.1 h⟩
            · rw [inB_cons, if_pos h]; cases f <;> cases inB xs row <;> rfl
            · rw [inB_cons, if_pos h]; cases s <;> cases inB ys row <;> rfl
          · rw [if_neg heq]
            refine step (x :: xs) (y :: ys) (x :: xs) ys f s f (!s) lo y (ly y (List.mem_cons_self ..)) (by simp at hn ⊢; omega) hx hy2.2 (fun z hz => ?_) hy2.1 (fun _ z => z) (fun z hz => List.mem_cons_of_mem _ hz) (.inr (List.mem_cons_self ..)) (fun row h => ⟨rfl, ?_⟩) fun row h => ⟨before (b := 0) hx2.1 (by omega), before (b := 0) hy2.1 h⟩
            · rcases List.mem_cons.mp hz with rfl | hz
              · omega
              · have := hx2.1 z hz; omega
            · rw [inB_cons, if_pos h]; cases s <;> cases inB ys row <;> rfl
theorem sweepAt_len (r : Bool → Bool → Bool) (at_ : Int) (f s b : Bool) (l : List Int) : (sweepAt r at_ f s b l).length ≤ l.length + 1 := by
  unfold sweepAt
  split
  · omega
  · simp
theorem sweep_len (r : Bool → Bool → Bool) : ∀ (n : Nat) (xs ys : List Int) (f s : Bool), xs.length + ys.length ≤ n → (sweep r xs ys f s).length ≤ xs.length + ys.length := by
  intro n
  induction n with
  | zero =>
    intro xs ys f s hn
    cases xs with
    | cons x xs => simp at hn
    | nil =>
      cases ys with
      | cons y ys => simp at hn
      | nil => rw [sweep]; simp
  | succ n ih =>
    intro xs ys f s hn
    cases xs with
    | nil =>
      cases ys with
      | nil => rw [sweep]; simp
      | cons y ys =>
        rw [sweep]
        have := ih [] ys f (!s) (by simp at hn ⊢; omega)
        exact Nat.le_trans (sweepAt_len ..) (by simp at this ⊢; omega)
    | cons x xs =>
      cases ys with
      | nil =>
        rw [sweep]
        have := ih xs [] (!f) s (by simp at hn ⊢; omega)
        exact Nat.le_trans (sweepAt_len ..) (by simp at this ⊢; omega)
      | cons y ys =>
        rw [sweep]
        split
        · have := ih xs (y :: ys) (!f) s (by simp at hn ⊢; omega)
          exact Nat.le_trans (sweepAt_len ..) (by simp at this ⊢; omega)
        · split
          · have := ih xs ys (!f) (!s) (by simp at hn ⊢; omega)
            exact Nat.le_trans (sweepAt_len ..) (by simp at this ⊢; omega)
          · have := ih (x :: xs) ys f (!s) (by simp at hn ⊢; omega)
            exact Nat.le_trans (sweepAt_len ..) (by simp at this ⊢; omega)
end S
namespace S
open PySem PySem.Spec PyProof.Rows L2
def t_turned_2 (K : Frag) (E : XK) : TS :=
    tRet (tOp (oAdd K) (dTup K (tCons (tC (.int 0)) (tNil))) (tCB (cTuple K) (tCons (dVar 0) (tNil))))
def t_turned_1 (K : Frag) (E : XK) : TS :=
    tSeq (dIfS (dAnd (dCmpT oGt (tCB (cLen K) (tCons (dVar 0) (tNil))) (tC (.int 0))) (dCmpT (oEq K) (tOp (oIx K) (dVar 0) (tC (.int 0))) (tC (.int 0)))) (tRet (tCB (cTuple K) (tCons (tSl (oSl K) (dVar 0) (dPart (tC (.int 1))) (tNoPart)) (tNil)))) (tNext))
    (stop (t_turned_2 K E))
def t_turned (K : Frag) (E : XK) : TS :=
    tSeq (dIfS (dCmpT (oEq K) (dVar 1) (tC (.int 0))) (tRet (dTup K (tNil))) (tNext))
    (stop (t_turned_1 K E))
end S
-- fn: turned
-- law: k03
-- deps: D0
namespace S
open PySem PySem.Spec PyProof.Rows L2
def mTurned (ends : List Int) (size : Int) : List Int := if size = 0 then [] else match ends with
  | 0 :: r => r
  | l => 0 :: l
def sp_turned (K : Frag) : Sp := fun vs H Q _ => ∃ (p : Addr) (ns : List Int) (size : Int), vs = [.ref p, .int size] ∧ SqA K H p (ns.map V.int) ∧ ns.length ≤ 100000 ∧
  ∀ (t : Addr) (H' : Hp), Same H H' → SqT K H' t ((mTurned ns size).map V.int) → Q (.ref t) H'
theorem at_zero {x : V} {xs : List V} : atI (x :: xs) 0 = some x := atI_nat (j := 0) rfl
theorem cut_one {x : V} {xs : List V} : cutV (x :: xs) (some 1) none = xs := by
  unfold cutV
  have e1 : HT.sIx (x :: xs).length 0 (some 1) = 1 := by
    have := HT.sIx_nat (x :: xs).length 0 1
    rw [show (1 : Int) = ((1 : Nat) : Int) from rfl, this, List.length_cons]; omega
  rw [e1, HT.sIx_none]
  simp
theorem pure_turned {K : Frag} (vs : List V) (H : Hp) (Q : VK) (E : XK) (h : sp_turned K vs H Q E) : t_turned K E { nx := fun _ H' => Q .non H', rt := Q } (start ["ends", "size"] vs) H := by
  obtain ⟨p, ns, size, rfl, hp, hl, q⟩ := h
  walk_at "gx"
  refine ifd (fun h0 => ?_) (fun h0 => ?_)
  · walk_at "gx"
    refine ⟨fun t H1 e h => q t H1 e ?_⟩
    have : mTurned ns size = [] := if_pos h0
    rw [this]; exact h
  walk_at "gx"
  rw [List.length_map]
  have rest : (∀ r, ns ≠ 0 :: r) → t_turned_2 K E { nx := fun _ H' => Q .non H', rt := Q } [some (.ref p), some (.int size)] H := by
    intro hn
    have e : mTurned ns size = 0 :: ns := by
      unfold mTurned
      rw [if_neg h0]
      cases ns with
      | nil => rfl
      | cons x r =>
        split
        · rename_i r' e; exact absurd e (hn _)
        · rfl
    walk_at "gx"
    refine ⟨fun t H1 e1 ht => ?_⟩
    have hp1 := Same.sqa e1 hp
    walk_at "gx"
    refine ⟨fun t2 H2 e2 ht2 => ?_⟩
    refine Cat.t (Same.tup e2 ht) ht2 (by simp only [List.length_cons, List.length_nil, List.length_map, sizeLine_eq]; omega) fun t3 H3 e3 ht3 => ?_
    refine q t3 H3 (e1.trans (e2.trans e3)) ?_
    rw [e]; exact ht3
  refine ifd (fun hlen => ?_) (fun hlen => ?_)
  · cases ns with
    | nil => exact absurd hlen (by decide)
    | cons x r =>
      have hx0 : atI ((x :: r).map V.int) 0 = some (.int x) := at_zero
      walk_at "gx"
      refine ifd (fun hx => ?_) (fun hx => ?_)
      · subst hx
        have e : mTurned (0 :: r) size = r := if_neg h0
        rcases hp with hp | hp
        · refine Cut.l hp fun p1 hp1 => ?_
          rw [List.map_cons, cut_one]
          walk_at "gx"
          refine ⟨fun t2 H2 e2 ht2 => q t2 H2 ((same_new hp1).trans e2) (by rw [e]; exact ht2)⟩
        · refine Cut.t hp fun p1 H1 e1 hp1 => ?_
          rw [List.map_cons, cut_one] at hp1
          walk_at "gx"
          refine ⟨fun t2 H2 e2 ht2 => q t2 H2 (e1.trans e2) (by rw [e]; exact ht2)⟩
      · exact ⟨rest fun r' e => hx (List.cons.inj e).1⟩
  · refine ⟨rest fun r' e => ?_⟩
    subst e
    exact hlen (by show (0 : Int) < ((r'.length + 1 : Nat) : Int); omega)
end S
-- deps: D0 D1 turned _law_in
namespace S
open PySem PySem.Spec PyProof.Rows L2
theorem turned_zero {ns : List Int} : mTurned ns 0 = [] := if_pos rfl
theorem turned_some {r : List Int} {size : Int} (h : size ≠ 0) : mTurned (0 :: r) size = r := if_neg h
theorem turned_none {ns : List Int} {size : Int} (h : size ≠ 0) (hn : ∀ r, ns ≠ 0 :: r) : mTurned ns size = 0 :: ns := by
  unfold mTurned
  rw [if_neg h]
  split
  · rename_i r e; exact absurd rfl (hn _)
  · rfl
/-- the three ways of turned -/
theorem turned_ways {size : Int} {ns : List Int} (h : Ends size ns) : (size = 0 ∧ ns = [] ∧ mTurned ns size = []) ∨ (size ≠ 0 ∧ ∃ r, ns = 0 :: r ∧ mTurned ns size = r ∧ (∀ x ∈ r, 0 < x)) ∨ (size ≠ 0 ∧ mTurned ns size = 0 :: ns ∧ (∀ x ∈ ns, 0 < x)) := by
  by_cases h0 : size = 0
  · left
    subst h0
    refine ⟨rfl, ?_, turned_zero⟩
    cases ns with
    | nil => rfl
    | cons x r => have := h.2 x (List.mem_cons_self ..); omega
  · right
    by_cases hn : ∃ r, ns = 0 :: r
    · obtain ⟨r, rfl⟩ := hn
      exact .inl ⟨h0, r, rfl, turned_some h0, fun x hx => (List.pairwise_cons.mp h.1).1 x hx⟩
    · refine .inr ⟨h0, turned_none h0 fun r e => hn ⟨r, e⟩, fun x hx => ?_⟩
      cases ns with
      | nil => cases hx
      | cons y r =>
        have hy := h.2 y (List.mem_cons_self ..)
        have hy0 : y ≠ 0 := fun e => hn ⟨r, by rw [e]⟩
        rcases List.mem_cons.mp hx with rfl | hx
        · omega
        · have := (List.pairwise_cons.mp h.1).1 x hx; omega
theorem turned_ends {size : Int} {ns : List Int} (h : Ends size ns) (hs : 0 ≤ size) : Ends size (mTurned ns size) := by
  rcases turned_ways h with ⟨_, _, e⟩ | ⟨h0, r, e1, e, hp⟩ | ⟨h0, e, hp⟩
  · rw [e]; exact ⟨.nil, fun _ z => nomatch z⟩
  · rw [e]; subst e1; exact ⟨(List.pairwise_cons.mp h.1).2, fun x hx => h.2 x (List.mem_cons_of_mem _ hx)⟩
  · rw [e]
    refine ⟨List.pairwise_cons.mpr ⟨hp, h.1⟩, fun x hx => ?_⟩
    rcases List.mem_cons.mp hx with rfl | hx
    · omega
    · exact h.2 x hx
theorem turned_in {size row : Int} {ns : List Int} (h : Ends size ns) (h0 : 0 ≤ row) (h1 : row < size) : inB (mTurned ns size) row = !(inB ns row) := by
  rcases turned_ways h with ⟨e, _, _⟩ | ⟨_, r, e1, e, hp⟩ | ⟨_, e, hp⟩
  · omega
  · rw [e, e1, inB_cons, if_pos h0, Bool.not_not]
  · rw [e, inB_cons, if_pos h0]
end S
-- deps: Bm
namespace S
open PySem PySem.Spec PyProof.Rows L2
theorem isi_bm {K : Frag} {H : Hp} {a : Addr} {n : Int} {es : List Int} {k : Bool → Prop} (h : Bm K H a n es) (q : k true) : Isi K H (.ref a) (.ref (He.ga K "Bitmap")) k := by
  obtain ⟨c, _, _, dx, p, hs, _⟩ := h
  exact ⟨.inr ⟨a, _, dx, _, true, rfl, hs, c.sc, c.si, by rw [mf_kit c.mf c.mf]; rfl, q⟩⟩
end S
namespace S
open PySem PySem.Spec PyProof.Rows L2
def t_Bitmap_paired_1 (K : Frag) (E : XK) : TS :=
    tRet (dGiv (CF K "Bitmap" ["ends", "size"]) (dMake K "Bitmap" (sp_Bitmapdd_initdd K) (EW E) (tCons (dAt K "size" (dVar 0)) (tCons (dCall (sp_swept K) (EW E) (tCons (dAt K "ends" (dVar 0)) (tCons (dAt K "ends" (dVar 1)) (tCons (dVar 2) (tNil))))) (tNil)))))
def t_Bitmap_paired (K : Frag) (E : XK) : TS :=
    tSeq (dIfS (dCmpT (oNe K) (dAt K "size" (dVar 0)) (dAt K "size" (dVar 1))) (dGivS (ExF K "SizesDiffer" ["SliceError"]) (dRaise K "SizesDiffer" (WD E))) (tNext))
    (stop (t_Bitmap_paired_1 K E))
end S
-- fn: Bitmap.paired
-- law: k05
-- deps: Bm Bitmap_init swept turned turned_law isi_bm
namespace S
open PySem PySem.Spec PyProof.Rows L2
def joinE (r : Bool → Bool → Bool) (es fs : List Int) : List Int := sweep r es fs false false
theorem join_ends {r : Bool → Bool → Bool} {n : Int} {es fs : List Int} (h1 : Ends n es) (h2 : Ends n fs) : Ends n (joinE r es fs) := by
  obtain ⟨a, b, _⟩ := sweep_law r _ es fs false false 0 (Nat.le_refl _) h1.1 h2.1 (fun x hx => (h1.2 x hx).1) (fun x hx => (h2.2 x hx).1)
  refine ⟨a, fun z hz => ?_⟩
  obtain ⟨c, d | d⟩ := b z hz
  · exact ⟨c, (h1.2 z d).2⟩
  · exact ⟨c, (h2.2 z d).2⟩
theorem join_in {r : Bool → Bool → Bool} {n : Int} {es fs : List Int} (h1 : Ends n es) (h2 : Ends n fs) (h0 : r false false = false) (row : Int) : inB (joinE r es fs) row = r (inB es row) (inB fs row) := by
  obtain ⟨_, _, c⟩ := sweep_law r _ es fs false false 0 (Nat.le_refl _) h1.1 h2.1 (fun x hx => (h1.2 x hx).1) (fun x hx => (h2.2 x hx).1)
  have z := c row
  rw [h0] at z
  show inB (sweep r es fs false false) row = _
  simpa using z
theorem join_len {r : Bool → Bool → Bool} {es fs : List Int} : (joinE r es fs).length ≤ es.length + fs.length := sweep_len r _ es fs false false (Nat.le_refl _)
/-- what a joining of two bitmaps promises -/
def spJoin (K : Frag) (r : Bool → Bool → Bool) (x y : Addr) (H : Hp) (Q : VK) (E : XK) : Prop := ∃ (n m : Int) (es fs : List Int), Bm K H x n es ∧ Bm K H y m fs ∧ es.length ≤ 50000 ∧ fs.length ≤ 50000 ∧
  (n = m → ∀ z H', Same H H' → H z = none → Bm K H' z n (joinE r es fs) → Q (.ref z) H') ∧ (n ≠ m → XF K "SizesDiffer" → E (.ref (He.ga K "SizesDiffer")) none H)
def sp_Bitmap_paired (K : Frag) : Sp := fun vs H Q E => ∃ (x y t : Addr) (r : Bool → Bool → Bool), vs = [.ref x, .ref y, .ref t] ∧ SqT K H t (ruleV r) ∧ r false false = false ∧ spJoin K r x y H Q E
theorem pure_Bitmap_paired {K : Frag} (vs : List V) (H : Hp) (Q : VK) (E : XK) (h : sp_Bitmap_paired K vs H Q E) : t_Bitmap_paired K E { nx := fun _ H' => Q .non H', rt := Q } (start ["self", "other", "rule"] vs) H := by
  obtain ⟨x, y, t, r, rfl, ht, h0, n, m, es, fs, hb, hb2, l1, l2, good, bad⟩ := h
  obtain ⟨c, n0, hE, dx, p, hs, hp⟩ := id hb
  obtain ⟨_, m0, hF, dy, q, hs2, hq⟩ := id hb2
  walk_at "gx"
  refine Atr.sl c hs (i := 1) rfl rfl ?_
  walk_at "gx"
  refine Atr.sl c hs2 (i := 1) rfl rfl ?_
  refine ifn (fun hn => ?_) (fun hn => ?_)
  · exact bad hn
  · subst hn
    walk_at "gx"
    refine fun _ => ?_
    refine Atr.sl c hs (i := 1) rfl rfl ?_
    walk_at "gx"
    refine Atr.sl c hs (i := 0) rfl rfl ?_
    walk_at "gx"
    refine Atr.sl c hs2 (i := 0) rfl rfl ?_
    refine ⟨p, q, t, es, fs, r, rfl, .inr hp, .inr hq, ht, h0, by omega, by omega, fun u H1 e1 hu => ?_⟩
    refine mk_bitmap c (.inr hu) (fun _ _ z H2 e2 nz hz => ?_) (fun nb => absurd ⟨n0, join_ends hE hF⟩ nb)
    refine good rfl z H2 (e1.trans e2) ?_ hz
    cases e : H z with
    | none => rfl
    | some o => rw [e1 _ _ e] at nz; cases nz
end S
namespace S
open PySem PySem.Spec PyProof.Rows L2
def t_Bitmapdd_anddd (K : Frag) (E : XK) : TS :=
    tRet (dMeth K "Bitmap" (sp_Bitmap_paired K) (EW E) (dVar 0) (tCons (dVar 1) (tCons (dGiv (TupG K "AND" [V.int 0, V.int 0, V.int 0, V.int 1]) (tC (.ref (He.ga K "AND")))) (tNil))))
end S
namespace S
open PySem PySem.Spec PyProof.Rows L2
def t_Bitmapdd_ordd (K : Frag) (E : XK) : TS :=
    tRet (dMeth K "Bitmap" (sp_Bitmap_paired K) (EW E) (dVar 0) (tCons (dVar 1) (tCons (dGiv (TupG K "OR" [V.int 0, V.int 1, V.int 1, V.int 1]) (tC (.ref (He.ga K "OR")))) (tNil))))
end S
namespace S
open PySem PySem.Spec PyProof.Rows L2
end S
namespace S
open PySem PySem.Spec PyProof.Rows L2
def t_Bitmapdd_subdd (K : Frag) (E : XK) : TS :=
    tRet (dMeth K "Bitmap" (sp_Bitmap_paired K) (EW E) (dVar 0) (tCons (dVar 1) (tCons (dGiv (TupG K "LESS" [V.int 0, V.int 0, V.int 1, V.int 0]) (tC (.ref (He.ga K "LESS")))) (tNil))))
end S
namespace S
open PySem PySem.Spec PyProof.Rows L2
def t_Bitmapdd_invertdd (K : Frag) (E : XK) : TS :=
    tRet (dGiv (CF K "Bitmap" ["ends", "size"]) (dMake K "Bitmap" (sp_Bitmapdd_initdd K) (EW E) (tCons (dAt K "size" (dVar 0)) (tCons (dCall (sp_turned K) (EW E) (tCons (dAt K "ends" (dVar 0)) (tCons (dAt K "size" (dVar 0)) (tNil)))) (tNil)))))
end S
namespace S
open PySem PySem.Spec PyProof.Rows L2
end S
namespace S
open PySem PySem.Spec PyProof.Rows L2
def t_Bitmapdd_booldd (K : Frag) (E : XK) : TS :=
    tRet (tCB (cBool K) (tCons (dAt K "ends" (dVar 0)) (tNil)))
end S
-- fn: Bitmap.__and__ Bitmap.__or__ Bitmap.__xor__ Bitmap.__sub__ Bitmap.__invert__ Bitmap.__eq__ Bitmap.__bool__
-- law: k05
-- deps: Bm Bitmap_init swept turned turned_law isi_bm Bitmap_paired
namespace S
open PySem PySem.Spec PyProof.Rows L2
def rAnd (a b : Bool) : Bool := a && b
def rOr (a b : Bool) : Bool := a || b
def rLess (a b : Bool) : Bool := a && !b
def sp_Bitmapdd_anddd (K : Frag) : Sp := fun vs H Q E => ∃ (x y : Addr), vs = [.ref x, .ref y] ∧ spJoin K rAnd x y H Q E
def sp_Bitmapdd_ordd (K : Frag) : Sp := fun vs H Q E => ∃ (x y : Addr), vs = [.ref x, .ref y] ∧ spJoin K rOr x y H Q E
def sp_Bitmapdd_subdd (K : Frag) : Sp := fun vs H Q E => ∃ (x y : Addr), vs = [.ref x, .ref y] ∧ spJoin K rLess x y H Q E
theorem join_slt {K : Frag} {r : Bool → Bool → Bool} {x y : Addr} {H : Hp} {Q : VK} {E : XK} (h : spJoin K r x y H Q E) : ∃ dx vs, SlX.Slt H x (He.ga K "Bitmap") dx vs := by
  obtain ⟨n, m, es, fs, ⟨_, _, _, dx, p, hs, _⟩, _⟩ := h
  exact ⟨dx, _, hs⟩
theorem pure_Bitmapdd_anddd {K : Frag} (vs : List V) (H : Hp) (Q : VK) (E : XK) (h : sp_Bitmapdd_anddd K vs H Q E) : t_Bitmapdd_anddd K E { nx := fun _ H' => Q .non H', rt := Q } (start ["self", "other"] vs) H := by
  obtain ⟨x, y, rfl, h⟩ := h
  obtain ⟨dx, _, hs⟩ := join_slt h
  refine IsO.of hs ?_
  refine fun g => ?_
  exact ⟨x, y, _, rAnd, rfl, g _, rfl, h⟩
theorem pure_Bitmapdd_ordd {K : Frag} (vs : List V) (H : Hp) (Q : VK) (E : XK) (h : sp_Bitmapdd_ordd K vs H Q E) : t_Bitmapdd_ordd K E { nx := fun _ H' => Q .non H', rt := Q } (start ["self", "other"] vs) H := by
  obtain ⟨x, y, rfl, h⟩ := h
  obtain ⟨dx, _, hs⟩ := join_slt h
  refine IsO.of hs ?_
  refine fun g => ?_
  exact ⟨x, y, _, rOr, rfl, g _, rfl, h⟩
theorem pure_Bitmapdd_subdd {K : Frag} (vs : List V) (H : Hp) (Q : VK) (E : XK) (h : sp_Bitmapdd_subdd K vs H Q E) : t_Bitmapdd_subdd K E { nx := fun _ H' => Q .non H', rt := Q } (start ["self", "other"] vs) H := by
  obtain ⟨x, y, rfl, h⟩ := h
  obtain ⟨dx, _, hs⟩ := join_slt h
  refine IsO.of hs ?_
  refine fun g => ?_
  exact ⟨x, y, _, rLess, rfl, g _, rfl, h⟩
def sp_Bitmapdd_invertdd (K : Frag) : Sp := fun vs H Q _ => ∃ (x : Addr) (n : Int) (es : List Int), vs = [.ref x] ∧ Bm K H x n es ∧ es.length ≤ 50000 ∧ ∀ z H', Same H H' → H z = none → Bm K H' z n (mTurned es n) → Q (.ref z) H'
theorem pure_Bitmapdd_invertdd {K : Frag} (vs : List V) (H : Hp) (Q : VK) (E : XK) (h : sp_Bitmapdd_invertdd K vs H Q E) : t_Bitmapdd_invertdd K E { nx := fun _ H' => Q .non H', rt := Q } (start ["self"] vs) H := by
  obtain ⟨x, n, es, rfl, hb, l, q⟩ := h
  obtain ⟨c, n0, hE, dx, p, hs, hp⟩ := id hb
  refine fun _ => ?_
  refine Atr.sl c hs (i := 1) rfl rfl ?_
  walk_at "gx"
  refine Atr.sl c hs (i := 0) rfl rfl ?_
  walk_at "gx"
  refine Atr.sl c hs (i := 1) rfl rfl ?_
  refine ⟨p, es, n, rfl, .inr hp, by omega, fun u H1 e1 hu => ?_⟩
  refine mk_bitmap c (.inr hu) (fun _ _ z H2 e2 nz hz => ?_) (fun nb => absurd ⟨n0, turned_ends hE n0⟩ nb)
  refine q z H2 (e1.trans e2) ?_ hz
  cases e : H z with
  | none => rfl
  | some o => rw [e1 _ _ e] at nz; cases nz
def sp_Bitmapdd_booldd (K : Frag) : Sp := fun vs H Q _ => ∃ (x : Addr) (n : Int) (es : List Int), vs = [.ref x] ∧ Bm K H x n es ∧ Q (.bl (decide (es ≠ []))) H
theorem pure_Bitmapdd_booldd {K : Frag} (vs : List V) (H : Hp) (Q : VK) (E : XK) (h : sp_Bitmapdd_booldd K vs H Q E) : t_Bitmapdd_booldd K E { nx := fun _ H' => Q .non H', rt := Q } (start ["self"] vs) H := by
  obtain ⟨x, n, es, rfl, hb, q⟩ := h
  obtain ⟨c, n0, hE, dx, p, hs, hp⟩ := id hb
  refine Atr.sl c hs (i := 0) rfl rfl ?_
  walk_at "gx"
  have e : decide (es.map V.int ≠ []) = decide (es ≠ []) := by cases es <;> rfl
  rw [e]
  exact q
/-- what stands behind ==: a bitmap, or something that is none -/
def BmV (K : Frag) (H : Hp) (y : V) (m : Int) (fs : List Int) : Prop := (∃ b, y = .ref b ∧ Bm K H b m fs) ∨ (m = -1 ∧ ∀ k : Bool → Prop, k false → MF K "Bitmap" [] ["object"] → Isi K H y (.ref (He.ga K "Bitmap")) k)
instance {K : Frag} {H : Hp} {b : Addr} {m : Int} {fs : List Int} : Coe (Bm K H b m fs) (BmV K H (.ref b) m fs) := ⟨fun h => .inl ⟨b, rfl, h⟩⟩
instance : Coe Addr V := ⟨V.ref⟩
end S
namespace S
open PySem PySem.Spec PyProof.Rows L2
end S
-- fn: _law_one_sided
-- law: k10
-- deps: D0 D1 _law_in Bitmap_ops
namespace S
open PySem PySem.Spec PyProof.Rows L2
theorem mem_iff (z : Int) : ∀ L : List Int, L.Pairwise (· < ·) → (z ∈ L ↔ inB L z ≠ inB L (z - 1))
  | [], _ => by simp [inB]
  | x :: r, h => by
    obtain ⟨h1, h2⟩ := List.pairwise_cons.mp h
    rw [inB_cons, inB_cons, List.mem_cons]
    have ih := mem_iff z r h2
    by_cases e : z = x
    · subst e
      rw [if_pos (Int.le_refl _), if_neg (by omega), inB_before h1, inB_before fun w hw => by have := h1 w hw; omega]
      simp
    · by_cases g : x < z
      · rw [if_pos (by omega), if_pos (by omega)]
        constructor
        · rintro (a | a)
          · exact absurd a e
          · have := ih.mp a
            simpa using this
        · intro a
          exact .inr (ih.mpr (by simpa using a))
      · rw [if_neg (by omega), if_neg (by omega)]
        constructor
        · rintro (a | a)
          · exact absurd a e
          · exact ih.mp a
        · intro a
          exact .inr (ih.mpr a)
end S
-- deps: Bm Bitmap_ops _law_in _law_one_sided
/-! ## slices: numbers of bits, place 0 first, the sign last -/
namespace S
open PySem PySem.Spec PyProof.Rows L2
def b2n (b : Bool) : Int := if b = true then 1 else 0
def twos : List Bool → Int
  | [] => 0
  | [b] => - b2n b
  | b :: c :: r => b2n b + 2 * twos (c :: r)
theorem twos_cons (b : Bool) {r : List Bool} (h : r ≠ []) : twos (b :: r) = b2n b + 2 * twos r := by
  cases r with
  | nil => exact absurd rfl h
  | cons c r => rfl
theorem twos_range : ∀ (bs : List Bool) (x : Bool), -(2 ^ bs.length : Int) ≤ twos (bs ++ [x]) ∧ twos (bs ++ [x]) < 2 ^ bs.length
  | [], x => by cases x <;> decide
  | b :: r, x => by
    obtain ⟨h1, h2⟩ := twos_range r x
    show -(2 ^ (r.length + 1) : Int) ≤ twos (b :: (r ++ [x])) ∧ twos (b :: (r ++ [x])) < 2 ^ (r.length + 1)
    rw [twos_cons b (by simp), Int.pow_succ]
    have hb : b2n b = 0 ∨ b2n b = 1 := by cases b <;> simp [b2n]
    generalize (2 ^ r.length : Int) = p at *
    omega
/-! ### the law's sum over the places -/
/-! ### lists of bitmaps, of lists -/
theorem one_last {α : Type} (M : List α) (h : M ≠ []) : ∃ A y, M = A ++ [y] := ⟨M.dropLast, M.getLast h, (List.dropLast_concat_getLast h).symm⟩
end S
-- deps: Bm Sl
/-! ## comprehensions that make objects -/
namespace S
open PySem PySem.Spec PyProof.Rows L2
theorem SameI.slt {H H' : Hp} {a C dx : Addr} {vs : List (Option V)} (e : SameI H H') (h : SlX.Slt H a C dx vs) : SlX.Slt H' a C dx vs := by
  rcases h with ⟨h, z⟩ | ⟨h, z⟩
  · exact .inl ⟨e _ _ h (fun _ z => by cases z), z⟩
  · exact .inr ⟨e _ _ h fun _ => slO_lst, e _ _ z (fun _ z => by cases z)⟩
theorem Bm.i {K : Frag} {H H' : Hp} {a : Addr} {n : Int} {es : List Int} (h : Bm K H a n es) (e : SameI H H') : Bm K H' a n es := by
  obtain ⟨c, h0, hE, dx, p, h1, h2⟩ := h
  exact ⟨c, h0, hE, dx, p, e.slt h1, e.tup h2⟩
end S
-- deps: Bm Bitmap_ops Sl Lc
/-! ## bitmaps told by their rows, their ends among known ones -/
namespace S
open PySem PySem.Spec PyProof.Rows L2
structure Kn (S : List Int) : Prop where
  zero : (0 : Int) ∈ S
  len : S.length ≤ 1000
theorem asc_len : ∀ (L S : List Int), L.Pairwise (· < ·) → (∀ z ∈ L, z ∈ S) → L.length ≤ S.length
  | [], _, _, _ => Nat.zero_le _
  | x :: r, S, h, hs => by
    obtain ⟨h1, h2⟩ := List.pairwise_cons.mp h
    have hx := hs x (List.mem_cons_self ..)
    have ih := asc_len r (S.erase x) h2 fun z hz => (List.mem_erase_of_ne (by have := h1 z hz; omega)).mpr (hs z (List.mem_cons_of_mem _ hz))
    have e := List.length_erase_of_mem hx
    have hp : 0 < S.length := List.length_pos_of_mem hx
    rw [List.length_cons]; omega
def Bs (K : Frag) (H : Hp) (x : Addr) (n : Int) (f : Int → Bool) (S : List Int) : Prop := ∃ es, Bm K H x n es ∧ (∀ z ∈ es, z ∈ S) ∧ ∀ row, 0 ≤ row → row < n → inB es row = f row
theorem Bs.same {K : Frag} {H H' : Hp} {x : Addr} {n : Int} {f : Int → Bool} {S : List Int} (h : Bs K H x n f S) (e : Same H H') : Bs K H' x n f S := let ⟨es, a, b, c⟩ := h; ⟨es, a.same e, b, c⟩
theorem Bs.x {K : Frag} {H H' : Hp} {x st : Addr} {n : Int} {f : Int → Bool} {S : List Int} {l : List V} (h : Bs K H x n f S) (e : SameX st H H') (hst : H st = some (.lst l)) : Bs K H' x n f S := let ⟨es, a, b, c⟩ := h; ⟨es, a.x e hst, b, c⟩
theorem Bs.slt {K : Frag} {H : Hp} {x : Addr} {n : Int} {f : Int → Bool} {S : List Int} (h : Bs K H x n f S) : ∃ dx vs, SlX.Slt H x (He.ga K "Bitmap") dx vs := let ⟨_, ⟨_, _, _, dx, _, a, _⟩, _⟩ := h; ⟨dx, _, a⟩
theorem sweep_mem {r : Bool → Bool → Bool} {n z : Int} {es fs : List Int} (h1 : Ends n es) (h2 : Ends n fs) (h : z ∈ joinE r es fs) : z ∈ es ∨ z ∈ fs := by
  obtain ⟨_, b, _⟩ := sweep_law r _ es fs false false 0 (Nat.le_refl _) h1.1 h2.1 (fun x hx => (h1.2 x hx).1) (fun x hx => (h2.2 x hx).1)
  exact (b z h).2
theorem turned_memS {n z : Int} {es : List Int} (h : z ∈ mTurned es n) : z = 0 ∨ z ∈ es := by
  unfold mTurned at h
  split at h
  · cases h
  · split at h
    · exact .inr (List.mem_cons_of_mem _ h)
    · rcases List.mem_cons.mp h with h | h
      · exact .inl h
      · exact .inr h
section
variable {K : Frag} {H : Hp} {x y : Addr} {n : Int} {f g : Int → Bool} {S : List Int} {Q : VK} {E : XK}
theorem bs_join {r : Bool → Bool → Bool} (kn : Kn S) (h1 : Bs K H x n f S) (h2 : Bs K H y n g S) (h0 : r false false = false) (q : ∀ z H', Same H H' → H z = none → Bs K H' z n (fun row => r (f row) (g row)) S → Q (.ref z) H') : spJoin K r x y H Q E := by
  obtain ⟨es, b1, a1, c1⟩ := h1
  obtain ⟨fs, b2, a2, c2⟩ := h2
  have l1 := asc_len es S b1.2.2.1.1 a1
  have l2 := asc_len fs S b2.2.2.1.1 a2
  have l3 := kn.len
  refine ⟨n, n, es, fs, b1, b2, by omega, by omega, fun _ z H' e nz hz => q z H' e nz ⟨_, hz, fun w hw => ?_, fun row r0 r1 => ?_⟩, fun z => absurd rfl z⟩
  · rcases sweep_mem b1.2.2.1 b2.2.2.1 hw with hw | hw
    · exact a1 w hw
    · exact a2 w hw
  · rw [join_in b1.2.2.1 b2.2.2.1 h0, c1 row r0 r1, c2 row r0 r1]
theorem bs_O2 {P : Prop} (h1 : Bs K H x n f S) (h2 : Bs K H y n g S) (q : P) : IsO K H "Bitmap" x (IsO K H "Bitmap" y P) := by
  obtain ⟨dx, vs, a⟩ := h1.slt
  obtain ⟨dy, ws, b⟩ := h2.slt
  exact .of a (.of b q)
theorem bs_and (kn : Kn S) (h1 : Bs K H x n f S) (h2 : Bs K H y n g S) (q : ∀ z H', Same H H' → H z = none → Bs K H' z n (fun row => rAnd (f row) (g row)) S → Q (.ref z) H') : IsO K H "Bitmap" x (IsO K H "Bitmap" y (sp_Bitmapdd_anddd K [.ref x, .ref y] H Q E)) := bs_O2 h1 h2 ⟨x, y, rfl, bs_join kn h1 h2 rfl q⟩
theorem bs_or (kn : Kn S) (h1 : Bs K H x n f S) (h2 : Bs K H y n g S) (q : ∀ z H', Same H H' → H z = none → Bs K H' z n (fun row => rOr (f row) (g row)) S → Q (.ref z) H') : IsO K H "Bitmap" x (IsO K H "Bitmap" y (sp_Bitmapdd_ordd K [.ref x, .ref y] H Q E)) := bs_O2 h1 h2 ⟨x, y, rfl, bs_join kn h1 h2 rfl q⟩
theorem bs_inv (kn : Kn S) (h1 : Bs K H x n f S) (q : ∀ z H', Same H H' → H z = none → Bs K H' z n (fun row => !(f row)) S → Q (.ref z) H') : IsO K H "Bitmap" x (sp_Bitmapdd_invertdd K [.ref x] H Q E) := by
  obtain ⟨dx, vs, a⟩ := h1.slt
  obtain ⟨es, b1, a1, c1⟩ := h1
  have l1 := asc_len es S b1.2.2.1.1 a1
  have l3 := kn.len
  refine .of a ⟨x, n, es, rfl, b1, by omega, fun z H' e nz hz => q z H' e nz ⟨_, hz, fun w hw => ?_, fun row r0 r1 => ?_⟩⟩
  · rcases turned_memS hw with hw | hw
    · rw [hw]; exact kn.zero
    · exact a1 w hw
  · rw [turned_in b1.2.2.1 r0 r1, c1 row r0 r1]
end
/-! ### lists of them -/
abbrev Slf := Addr × (Int → Bool)
def vF (t : Slf) : V := .ref t.1
def bitsF (M : List Slf) (row : Int) : List Bool := M.map fun t => t.2 row
def Bss (K : Frag) (H : Hp) (n : Int) (S : List Int) (M : List Slf) : Prop := ∀ t ∈ M, Bs K H t.1 n t.2 S
theorem Bss.same {K : Frag} {H H' : Hp} {n : Int} {S : List Int} {M : List Slf} (h : Bss K H n S M) (e : Same H H') : Bss K H' n S M := fun t ht => (h t ht).same e
theorem Bss.x {K : Frag} {H H' : Hp} {n : Int} {S : List Int} {M : List Slf} {st : Addr} {l : List V} (h : Bss K H n S M) (e : SameX st H H') (hst : H st = some (.lst l)) : Bss K H' n S M := fun t ht => (h t ht).x e hst
/-! ### sums, negatives -/
end S
-- deps: Bs D0 D1
/-! ## what stays when an instance with a dict is changed -/
namespace S
open PySem PySem.Spec PyProof.Rows L2
variable {K : Frag} {H H' : Hp} {x C dy : Addr} {as : List (Str × V)}
theorem SameX.sltI {a C2 dx : Addr} {vs : List (Option V)} (e : SameX x H H') (hx : H x = some (.ins C dy as)) (h : SlX.Slt H a C2 dx vs) (n : vs ≠ []) : SlX.Slt H' a C2 dx vs := by
  rcases h with ⟨h, z⟩ | ⟨h, z⟩
  · exact absurd z n
  · exact .inr ⟨e _ _ h (ne_of h hx fun y => by unfold SlX.SlO at y; cases y), e _ _ z (ne_of z hx fun y => by cases y)⟩
theorem SameX.tupI {a : Addr} {xs : List V} (e : SameX x H H') (hx : H x = some (.ins C dy as)) (h : SqT K H a xs) : SqT K H' a xs := by
  rcases h with (h | ⟨o, h⟩) | h
  · exact .inl (.inl (e _ _ h (ne_of h hx (by intro z; cases z))))
  · exact .inl (.inr ⟨o, e _ _ h (ne_of h hx (by intro z; cases z))⟩)
  · exact .inr h
theorem paired_at2 {α β : Type} {P : α → β → Prop} : ∀ {xs : List α} {ys : List β} {i : Nat} {y : β}, Paired P xs ys → ys[i]? = some y → ∃ x, xs[i]? = some x ∧ P x y
  | _, _, i, _, .nil, h => by simp at h
  | _, _, 0, _, .cons h _, e => by
    rw [List.getElem?_cons_zero] at e
    cases e
    exact ⟨_, rfl, h⟩
  | _, _, i + 1, _, .cons _ t, e => by
    rw [List.getElem?_cons_succ] at e
    obtain ⟨x, hx, hp⟩ := paired_at2 t e
    exact ⟨x, by rw [List.getElem?_cons_succ]; exact hx, hp⟩
theorem Bm.xi {a : Addr} {n : Int} {es : List Int} (h : Bm K H a n es) (e : SameX x H H') (hx : H x = some (.ins C dy as)) : Bm K H' a n es := by
  obtain ⟨c, n0, hE, dx, p, hs, hp⟩ := h
  exact ⟨c, n0, hE, dx, p, e.sltI hx hs (by simp), e.tupI hx hp⟩
theorem Bs.xi {a : Addr} {n : Int} {f : Int → Bool} {S : List Int} (h : Bs K H a n f S) (e : SameX x H H') (hx : H x = some (.ins C dy as)) : Bs K H' a n f S := let ⟨es, a, b, c⟩ := h; ⟨es, a.xi e hx, b, c⟩
end S
-- deps: Held Ins
/-! ## all stays but some lists and instances -/
namespace S
open PySem PySem.Spec PyProof.Rows L2
/-- what stood stands (whatever it is) -/
def Dm (U W : Hp) : Prop := ∀ b, W b = none → U b = none
theorem Dm.refl (U : Hp) : Dm U U := fun _ h => h
theorem Dm.trans {U V W : Hp} (a : Dm U V) (b : Dm V W) : Dm U W := fun c h => a c (b c h)
theorem Same.dm {H H' : Hp} (e : Same H H') : Dm H H' := fun b h => by
  cases g : H b with
  | none => rfl
  | some o => rw [e _ _ g] at h; cases h
theorem SameX.dm {q : Addr} {H H' : Hp} {o : HO} (e : SameX q H H') (h' : H' q = some o) : Dm H H' := fun b h => by
  cases g : H b with
  | none => rfl
  | some o =>
    by_cases n : b = q
    · subst n; rw [h'] at h; cases h
    · rw [e _ _ g n] at h; cases h
theorem Dm.upd {U W : Hp} {q : Addr} {o : HO} (d : Dm U W) : Dm U (upd W q o) := fun b h => by
  by_cases n : b = q
  · subst n; rw [upd_same] at h; cases h
  · rw [upd_ne n] at h; exact d b h
/-- all but M stays -/
def FrM (M : List Addr) (U W : Hp) : Prop := ∀ b o, U b = some o → b ∉ M → W b = some o
/-- M: lists and instances with four fields -/
def GM (M : List Addr) (U : Hp) : Prop := ∀ b ∈ M, (∃ xs, U b = some (.lst xs)) ∨ ∃ C dy as, U b = some (.ins C dy as) ∧ as.length = 4
section
variable {K : Frag} {M : List Addr} {U U2 W : Hp}
theorem FrM.refl : FrM M U U := fun _ _ h _ => h
theorem FrM.trans (a : FrM M U U2) (b : FrM M U2 W) : FrM M U W := fun c o h n => b c o (a c o h n) n
theorem FrM.same (a : FrM M U U2) (e : Same U2 W) : FrM M U W := fun c o h n => e c o (a c o h n)
theorem Same.fr (e : Same U W) : FrM M U W := fun c o h _ => e c o h
theorem SameX.fr {q : Addr} (e : SameX q U W) (h : q ∈ M) : FrM M U W := fun c o hc n => e c o hc fun z => n (z ▸ h)
theorem FrM.x {q : Addr} (a : FrM M U U2) (e : SameX q U2 W) (h : q ∈ M ∨ U q = none) : FrM M U W := fun c o hc n => e c o (a c o hc n) fun z => by
  subst z
  rcases h with h | h
  · exact n h
  · rw [h] at hc; cases hc
theorem FrM.mono {N : List Addr} (a : FrM M U W) (h : ∀ b ∈ M, b ∈ N ∨ U b = none) : FrM N U W := fun c o hc n => a c o hc fun hm => by
  rcases h c hm with h | h
  · exact n h
  · rw [h] at hc; cases hc
theorem GM.ne {b : Addr} {o : HO} (g : GM M U) (h : U b = some o) (n1 : ∀ xs, o ≠ .lst xs) (n2 : ∀ C dy as, o = .ins C dy as → as.length ≠ 4) : b ∉ M := fun hm => by
  rcases g b hm with ⟨xs, e⟩ | ⟨C, dy, as, e, l⟩
  · rw [h] at e; exact n1 xs (Option.some.inj e)
  · rw [h] at e; exact n2 C dy as (Option.some.inj e) l
theorem FrM.tup {a : Addr} {xs : List V} (f : FrM M U W) (g : GM M U) (h : SqT K U a xs) : SqT K W a xs := by
  rcases h with (h | ⟨o, h⟩) | h
  · exact .inl (.inl (f _ _ h (g.ne h (fun _ z => by cases z) fun _ _ _ z => by cases z)))
  · exact .inl (.inr ⟨o, f _ _ h (g.ne h (fun _ z => by cases z) fun _ _ _ z => by cases z)⟩)
  · exact .inr h
theorem FrM.slt {a C dx : Addr} {vs : List (Option V)} (f : FrM M U W) (g : GM M U) (h : SlX.Slt U a C dx vs) (n : vs ≠ []) : SlX.Slt W a C dx vs := by
  rcases h with ⟨h, z⟩ | ⟨h, z⟩
  · exact absurd z n
  · exact .inr ⟨f _ _ h (g.ne h (fun _ y => by unfold SlX.SlO at y; cases y) fun _ _ _ y => by unfold SlX.SlO at y; cases y), f _ _ z (g.ne z (fun _ y => by cases y) fun _ _ _ y => by cases y)⟩
theorem Bm.fr {a : Addr} {n : Int} {es : List Int} (h : Bm K U a n es) (f : FrM M U W) (g : GM M U) : Bm K W a n es := by
  obtain ⟨c, n0, hE, dx, p, hs, hp⟩ := h
  exact ⟨c, n0, hE, dx, p, f.slt g hs (by intro z; cases z), f.tup g hp⟩
theorem Cols.fr {ys : List V} {cs : List Col} (h : Cols K U ys cs) (f : FrM M U W) (g : GM M U) : Cols K W ys cs := Paired.mapP h fun _ _ ⟨a, h1, h2⟩ => ⟨a, h1, f.tup g h2⟩
theorem ColsK.fr {ys : List V} {cs : List Col} (h : ColsK U ys cs) (f : FrM M U W) (g : GM M U) : ColsK W ys cs := Paired.mapP h fun _ _ ⟨a, h1, h2⟩ => ⟨a, h1, f _ _ h2 (g.ne h2 (fun _ z => by cases z) fun _ _ _ z => by cases z)⟩
theorem Sc.fr {s : Addr} {cs : List Col} (h : Sc K U s cs) (f : FrM M U W) (g : GM M U) : Sc K W s cs := by
  obtain ⟨a, b, l, dx, u, ys, h1, h2, h3⟩ := h
  exact ⟨a, b, l, dx, u, ys, f _ _ h1 (g.ne h1 (fun _ z => by cases z) fun _ _ _ z => by cases z; show 1 ≠ 4; decide), f.tup g h2, h3.fr f g⟩
theorem Held.fr {d : Addr} {n : Int} {cs : List Col} {he : Col → List Int} (h : Held K U d n cs he) (f : FrM M U W) (g : GM M U) : Held K W d n cs he := by
  obtain ⟨kvs, h1, h2, h3⟩ := h
  exact ⟨kvs, f _ _ h1 (g.ne h1 (fun _ z => by cases z) fun _ _ _ z => by cases z), h2, fun c hc => let ⟨b, g1, g2⟩ := h3 c hc; ⟨b, g1, g2.fr f g⟩⟩
theorem StO.fr {x l d : Addr} {cs : List Col} {n : Int} {he : Col → List Int} {lg : List Col} (h : StO K U x l d cs n he lg) (f : FrM M U W) (g : GM M U) (nx : x ∉ M) (nl : l ∉ M) : StO K W x l d cs n he lg := by
  obtain ⟨sf, n0, w, lc, dx, s, tl, h1, h2, h3, h4, h5⟩ := h
  exact ⟨sf, n0, w, lc, dx, s, tl, f _ _ h1 nx, h2.fr f g, h3.fr f g, f _ _ h4 nl, h5.fr f g⟩
end
end S
-- deps: Sl Bs
/-! ## numbers of bits, further -/
namespace S
open PySem PySem.Spec PyProof.Rows L2
theorem twos_rangeL {bs : List Bool} (h : bs ≠ []) : -(2 ^ (bs.length - 1) : Int) ≤ twos bs ∧ twos bs < 2 ^ (bs.length - 1) := by
  obtain ⟨A, y, rfl⟩ := one_last bs h
  have := twos_range A y
  simpa using this
theorem pow_up {p q : Nat} (h : p ≤ q) : (2 ^ p : Int) ≤ 2 ^ q := by
  have h1 : ((2 : Int) ^ p) = ((2 ^ p : Nat) : Int) := by simp
  have h2 : ((2 : Int) ^ q) = ((2 ^ q : Nat) : Int) := by simp
  rw [h1, h2]
  exact Int.ofNat_le.mpr (Nat.pow_le_pow_right (by decide) h)
/-- wide: one width less does not do -/
def Wd (len : Nat) (x : Int) : Prop := x < -(2 ^ (len - 2) : Int) ∨ (2 ^ (len - 2) : Int) ≤ x
end S
namespace S
open PySem PySem.Spec PyProof.Rows L2
end S
-- fn: narrowed
-- law: k12
-- own: Eq=Bitmap
-- deps: Sl
namespace S
open PySem PySem.Spec PyProof.Rows L2
end S
namespace S
open PySem PySem.Spec PyProof.Rows L2
def t__law_draw_7 (K : Frag) (E : XK) : TS :=
    tRet (tOp oMod (tCB cInt (tCons (dVar 6) (tNil))) (dVar 2))
def t__law_draw_6 (K : Frag) (E : XK) : TS :=
    tSeq (tAsg (tOp oMod (tCB cInt (tCons (tOp oMulA (dVar 6) (dVar 6)) (tNil))) (tC (.int 999983))) (gName 6))
    (stop (t__law_draw_7 K E))
def t__law_draw_5 (K : Frag) (E : XK) : TS :=
    tSeq (tAsg (tOp oMod (tCB cInt (tCons (tOp (oAdd K) (tOp oMulA (dVar 6) (dVar 6)) (dVar 4)) (tNil))) (tC (.int 1000003))) (gName 6))
    (stop (t__law_draw_6 K E))
def t__law_draw_4 (K : Frag) (E : XK) : TS :=
    tSeq (tAsg (tOp oMod (tCB cInt (tCons (tOp (oAdd K) (tOp oMulA (dVar 4) (tOp (oAdd K) (tOp (oAdd K) (tC (.int 48271)) (tOp oMulA (tC (.int 7919)) (tOp (oIx K) (dVar 1) (tC (.int 1))))) (tOp oMulA (tC (.int 104729)) (tOp (oIx K) (dVar 1) (tC (.int 0)))))) (tOp oMulA (tC (.int 611953)) (tOp (oIx K) (dVar 1) (tC (.int 3))))) (tNil))) (tC (.int 2147483647))) (gName 6))
    (stop (t__law_draw_5 K E))
def t__law_draw_3 (K : Frag) (E : XK) : TS :=
    tSeq (dIfS (dCmpT (oEq K) (tOp (oIx K) (dVar 1) (tC (.int 3))) (tC (.int 2))) (tSeq (tAsg (tOp oFdiv (dVar 4) (tC (.int 1000))) (gSub (dVar 1) (tC (.int 2)) oSet))
    (tSeq (dIfS (dCmpT (oEq K) (tOp (oIx K) (dVar 1) (tC (.int 2))) (tC (.int 0))) (tAsg (tC (.int 0)) (gSub (dVar 1) (tC (.int 1)) oSet)) (tNext))
    (tSeq (tAsg (tOp oMod (tCB cInt (tCons (dVar 4) (tNil))) (tC (.int 1000))) (gName 5))
    (tRet (tOp oMod (tCB cInt (tCons (dVar 5) (tNil))) (dVar 2)))))) (tNext))
    (stop (t__law_draw_4 K E))
def t__law_draw_2 (K : Frag) (E : XK) : TS :=
    tSeq (tAsg (tCB cInt (tCons (tOp (oIx K) (dVar 1) (tC (.int 2))) (tNil))) (gName 4))
    (stop (t__law_draw_3 K E))
def t__law_draw_1 (K : Frag) (E : XK) : TS :=
    tSeq (tAsg (tOp oSub (tOp (oIx K) (dVar 1) (tC (.int 1))) (tC (.int 1))) (gSub (dVar 1) (tC (.int 1)) oSet))
    (stop (t__law_draw_2 K E))
def t__law_draw (K : Frag) (E : XK) : TS :=
    tSeq (dIfS (dCmpT (oEq K) (tOp (oIx K) (dVar 1) (tC (.int 1))) (tC (.int 0))) (tSeq (tAsg (tOp (oIx K) (dVar 1) (tC (.int 0))) (gName 3))
    (tSeq (tAsg (tOp (oAdd K) (dVar 3) (tC (.int 1))) (gSub (dVar 1) (tC (.int 0)) oSet))
    (tSeq (dIfS (dCmpT oGe (dVar 3) (tCB (cLen K) (tCons (dVar 0) (tNil)))) (tRet (tC (.int 0))) (tNext))
    (tSeq (tAsg (tCB cAbs (tCons (tOp (oIx K) (dVar 0) (dVar 3)) (tNil))) (gSub (dVar 1) (tC (.int 2)) oSet))
    (tSeq (tAsg (tCB cInt (tCons (tOp oLt (tOp (oIx K) (dVar 0) (dVar 3)) (tC (.int 0))) (tNil))) (gSub (dVar 1) (tC (.int 3)) oSet))
    (tSeq (tAsg (tC (.int 12)) (gSub (dVar 1) (tC (.int 1)) oSet))
    (dIfS (dCmpT oGe (tOp (oIx K) (dVar 1) (tC (.int 2))) (tOp oPow (tC (.int 10)) (tC (.int 18)))) (tSeq (tAsg (tC (.int 60)) (gSub (dVar 1) (tC (.int 1)) oSet))
    (tAsg (tC (.int 2)) (gSub (dVar 1) (tC (.int 3)) oSet))) (tNext)))))))) (tNext))
    (stop (t__law_draw_1 K E))
end S
-- fn: _law_draw
-- law: k03
-- deps: D0
namespace S
open PySem PySem.Spec PyProof.Rows L2
theorem pure__law_draw {K : Frag} (vs : List V) (H : Hp) (Q : VK) (E : XK) (h : sp__law_draw K vs H Q E) : t__law_draw K E { nx := fun _ H' => Q .non H', rt := Q } (start ["_law_script", "_law_state", "_law_base", "_law_here", "_law_number", "_law_digit", "_law_mixed"] vs) H := by
  obtain ⟨a, st, base, rfl, ⟨⟨ns, hscr⟩, l, hl, A, B, N, k, rfl, hA, hN, hd⟩, hb, q⟩ := h

  have hsl : ∀ H1, SameX st H H1 → SqL K H1 a (ns.map V.int) := fun H1 e => (hscr.x e).sl
  have fin : ∀ (x : Int) (l : List V) (H1 : Hp), SameX st H H1 → H1 st = some (.lst l) → DrawSt l → Q (.int (x % base)) H1 := fun x l H1 e h d =>
    q _ _ (Int.emod_nonneg _ (by omega)) (Int.emod_lt_of_pos _ hb) ⟨⟨ns, hscr.x e⟩, l, h, d⟩ e
  have tail : ∀ (A B N k : Int) (w : Option V) (H' : Hp), 0 ≤ A → 0 ≤ N → (k = 2 ∨ N < 10 ^ 18) → SameX st H H' → H' st = some (.lst [.int A, .int B, .int N, .int k]) →
      t__law_draw_1 K E { nx := fun _ H' => Q .non H', rt := Q } [some (.ref a), some (.ref st), some (.int base), w, none, none, none] H' := by
    intro A B N k w H' hA hN hk hs hl
    have h1000 : 0 ≤ N / 1000 := Int.ediv_nonneg hN (by decide)
    walk_at "gx"
    refine ifd (fun hk2 => ?_) (fun hk2 => ?_)
    · walk_at "gx"
      refine ifd (fun hz => ?_) (fun hz => ?_)
      · walk_at "gx"
        exact fin _ _ _ (hs.trans (SameX.upd.trans (SameX.upd.trans SameX.upd))) upd_same ⟨_, _, _, _, rfl, hA, h1000, .inl rfl⟩
      · walk_at "gx"
        exact fin _ _ _ (hs.trans (SameX.upd.trans SameX.upd)) upd_same ⟨_, _, _, _, rfl, hA, h1000, .inr (.inl hk2)⟩
    · have hN2 : N < 10 ^ 18 := by omega
      walk_at "gx"
      exact fin _ _ _ (hs.trans SameX.upd) upd_same ⟨_, _, _, _, rfl, hA, hN, .inr (.inr hN2)⟩
  walk_at "go"
  refine ifd (fun hB => ?_) (fun hB => ?_)
  · walk_at "go"
    rw [List.length_map]
    refine ifd (fun hlen => ?_) (fun hlen => ?_)
    · exact q 0 _ (Int.le_refl 0) hb ⟨⟨ns, hscr.x SameX.upd⟩, _, upd_same, _, _, _, _, rfl, by omega, hN, hd⟩ SameX.upd
    · obtain ⟨x, hx⟩ := at_ints (ns := ns) hA (by omega)
      walk_at "go"
      refine ifd (fun hbig => ?_) (fun hbig => ?_)
      · walk_at "go"
        exact ⟨tail _ _ _ _ _ _ (by omega) (by omega) (.inl rfl) (SameX.upd.trans (SameX.upd.trans (SameX.upd.trans (SameX.upd.trans (SameX.upd.trans SameX.upd))))) upd_same⟩
      · have hb2 : ¬ ((10 : Int) ^ 18 ≤ x.natAbs) := hbig
        exact ⟨tail _ _ _ _ _ _ (by omega) (by omega) (.inr (by omega)) (SameX.upd.trans (SameX.upd.trans (SameX.upd.trans SameX.upd))) upd_same⟩
  · exact ⟨tail A B N k _ H hA hN (by omega) (SameX.refl _ _) hl⟩
end S
namespace S
open PySem PySem.Spec PyProof.Rows L2
end S
-- fn: _law_wide
-- law: k03
-- deps: D0
namespace S
open PySem PySem.Spec PyProof.Rows L2
end S
namespace S
open PySem PySem.Spec PyProof.Rows L2
end S
-- fn: _law_ends
-- law: k03
-- deps: D0 _law_wide
namespace S
open PySem PySem.Spec PyProof.Rows L2
end S
namespace S
open PySem PySem.Spec PyProof.Rows L2
end S
-- fn: _law_places
-- law: k12
-- deps: Sl _law_draw _law_ends
namespace S
open PySem PySem.Spec PyProof.Rows L2
theorem SameX.none {st : Addr} {H H' : Hp} {p : Addr} (e : SameX st H H') (h : H' p = none) (n : p ≠ st) : H p = none := by
  cases x : H p with
  | none => rfl
  | some o => rw [e _ _ x n] at h; cases h
theorem same_none {H H' : Hp} {p : Addr} (e : Same H H') (h : H' p = none) : H p = none := by
  cases x : H p with
  | none => rfl
  | some o => rw [e _ _ x] at h; cases h
end S
namespace S
open PySem PySem.Spec PyProof.Rows L2
end S
-- fn: Column.__init__
-- law: k15
-- own: BitAnd=Bitmap
-- deps: Tw narrowed Bs Lc Bitmap_init _law_places
namespace S
open PySem PySem.Spec PyProof.Rows L2
abbrev CmF (K : Frag) : Prop := CF K "Column" ["presence", "size", "slices", "width"]
/-- a column: the value of each row, its slices the fewest -/
def Cm (K : Frag) (H : Hp) (a : Addr) (n : Int) (vf : Int → Option Int) (S : List Int) : Prop := CmF K ∧ 0 ≤ n ∧ Kn S ∧ ∃ (dx p q : Addr) (M : List Slf), SlX.Slt H a (He.ga K "Column") dx [some (.ref p), some (.int n), some (.ref q), some (.int (M.length : Nat))] ∧
  Bs K H p n (fun r => (vf r).isSome) S ∧ SqT K H q (M.map vF) ∧ Bss K H n S M ∧ M ≠ [] ∧ M.length ≤ 1000 ∧ (∀ row, 0 ≤ row → row < n → twos (bitsF M row) = (vf row).getD 0) ∧ (1 < M.length → ∃ row, 0 ≤ row ∧ row < n ∧ Wd M.length ((vf row).getD 0))
theorem Cm.same {K : Frag} {H H' : Hp} {a : Addr} {n : Int} {vf : Int → Option Int} {S : List Int} (h : Cm K H a n vf S) (e : Same H H') : Cm K H' a n vf S := by
  obtain ⟨c, n0, kn, dx, p, q, M, h1, h2, h3, h4, h5, h6, h7, h8⟩ := h
  exact ⟨c, n0, kn, dx, p, q, M, Same.slt e h1, h2.same e, Same.tup e h3, h4.same e, h5, h6, h7, h8⟩
end S
namespace S
open PySem PySem.Spec PyProof.Rows L2
def t_Bitmapdd_containsdd (K : Frag) (E : XK) : TS :=
    tRet (dAndV (dChain oLe oLt (tC (.int 0)) (dVar 1) (dAt K "size" (dVar 0))) (tOp (oEq K) (tOp oAnd (tCB (cLen K) (tCons (dLc (iSeq K (dAt K "ends" (dVar 0))) (gName 2) (dCmpT oLe (dVar 2) (dVar 1)) (dVar 2) [2]) (tNil))) (tC (.int 1))) (tC (.int 1))))
end S
-- fn: Bitmap.__contains__
-- law: k01
-- deps: Bm _law_in
namespace S
open PySem PySem.Spec PyProof.Rows L2
/-- a row is in the bitmap -/
def rowIn (n : Int) (es : List Int) (row : Int) : Bool := decide (0 ≤ row) && (decide (row < n) && inB es row)
def sp_Bitmapdd_containsdd (K : Frag) : Sp := fun vs H Q _ => ∃ (x : Addr) (n : Int) (es : List Int) (row : Int), vs = [.ref x, .int row] ∧ Bm K H x n es ∧ es.length ≤ 100000 ∧ ∀ H', Same H H' → Q (.bl (rowIn n es row)) H'
theorem inB_odd (es : List Int) (row : Int) : inB es row = decide (((es.filter fun e => decide (e ≤ row)).length) % 2 = 1) := by
  induction es with
  | nil => rfl
  | cons x r ih =>
    rw [inB_cons, List.filter_cons]
    by_cases h : x ≤ row
    · rw [if_pos h, if_pos (by simpa using h), ih, List.length_cons]
      by_cases h2 : (r.filter fun e => decide (e ≤ row)).length % 2 = 1
      · rw [decide_eq_true h2, decide_eq_false (by omega)]; rfl
      · rw [decide_eq_false h2, decide_eq_true (by omega)]; rfl
    · rw [if_neg h, if_neg (by simpa using h), ih]
theorem pure_Bitmapdd_containsdd {K : Frag} (vs : List V) (H : Hp) (Q : VK) (E : XK) (h : sp_Bitmapdd_containsdd K vs H Q E) : t_Bitmapdd_containsdd K E { nx := fun _ H' => Q .non H', rt := Q } (start ["self", "row", "end"] vs) H := by
  obtain ⟨x, n, es, row, rfl, hb, hl, q⟩ := h
  obtain ⟨c, h0, hE, dx, p, hs, hp⟩ := id hb
  walk_at "gx"
  refine ifd (fun h1 => ?_) (fun h1 => ?_)
  · walk_at "gx"
    refine Atr.sl c hs (i := 1) rfl rfl ?_
    walk_at "gx"
    refine ifd (fun h2 => ?_) (fun h2 => ?_)
    · walk_at "gx"
      refine Atr.sl c hs (i := 0) rfl rfl ?_
      refine lc_map (fun v => v) (fun v => match v with | .int i => decide (i ≤ row) | _ => false) (.inr hp) (by rw [List.length_map, sizeLine_eq]; omega) ?_ fun D H5 nD hD e5 => ?_
      · intro y H A B hm e hA hB
        obtain ⟨i, hi, rfl⟩ := List.mem_map.mp hm
        refine ⟨rfl, ?_⟩
        walk_at "gx"
        refine ifc (fun h => ?_) (fun h => ?_)
        · exact hA _ (Same.refl _) (decide_eq_true h)
        · exact hB _ (Same.refl _) (decide_eq_false h)
      · rw [map_filter_ints _ _ (fun i => decide (i ≤ row)) (fun i => i) (fun _ => rfl) (fun _ => rfl), List.map_id'] at hD
        walk_at "gx"
        have z := q H5 e5
        have e : rowIn n es row = decide (Builtin.bitAnd (((es.filter fun e => decide (e ≤ row)).map V.int).length : Int) 1 = 1) := by
          unfold rowIn
          rw [decide_eq_true h1, decide_eq_true h2, inB_odd, bitAnd_m1, List.length_map, Bool.true_and, Bool.true_and, decide_eq_decide]
          omega
        rw [e] at z
        exact z
    · have e : rowIn n es row = false := by unfold rowIn; rw [decide_eq_false h2]; simp
      have z := q H (Same.refl _)
      rw [e] at z
      exact z
  · have e : rowIn n es row = false := by unfold rowIn; rw [decide_eq_false h1]; rfl
    have z := q H (Same.refl _)
    rw [e] at z
    exact z
end S
namespace S
open PySem PySem.Spec PyProof.Rows L2
end S
namespace S
open PySem PySem.Spec PyProof.Rows L2
end S
namespace S
open PySem PySem.Spec PyProof.Rows L2
end S
-- fn: width_for bit_of weight_of
-- law: k15
-- deps: Tw Bitmap_contains
namespace S
open PySem PySem.Spec PyProof.Rows L2
def widO (v : Option Int) : Nat := match v with
  | none => 1
  | some i => widI i
end S
namespace S
open PySem PySem.Spec PyProof.Rows L2
end S
-- fn: _law_rows_of
-- law: k12
-- deps: Sl _law_places
namespace S
open PySem PySem.Spec PyProof.Rows L2
theorem SameX.stay {K : Frag} {st p : Addr} {H H' : Hp} {l : List V} (e : SameX st H H') (n : p ≠ st) (hst : H st = some (.lst l)) : Stay K p H H' := fun _ => ⟨fun h => e.seq h n, fun h => e.tup h hst⟩
end S
namespace S
open PySem PySem.Spec PyProof.Rows L2
end S
-- fn: bitmap_of
-- law: k15
-- deps: width_for Lc Bitmap_init _law_places _law_rows_of
namespace S
open PySem PySem.Spec PyProof.Rows L2
theorem paired_get {α β : Type} {R : α → β → Prop} : ∀ {as : List α} {bs : List β} {i : Nat} {b : β}, Paired R as bs → bs[i]? = some b → ∃ a, as[i]? = some a ∧ R a b
  | _, _, 0, b, .cons r _, h => by
    have e := Option.some.inj h
    subst e
    exact ⟨_, rfl, r⟩
  | _, _, i + 1, b, .cons _ h2, h => by
    obtain ⟨a, e, r⟩ := paired_get (i := i) h2 (by simpa using h)
    exact ⟨a, by simpa using e, r⟩
def sums {α : Type} : Int → List (Int × α) → List Int
  | _, [] => []
  | a, (l, _) :: r => a :: sums (a + l) r
end S
namespace S
open PySem PySem.Spec PyProof.Rows L2
end S
-- fn: Column.of_runs
-- law: k15
-- deps: Column_init bitmap_of width_for
namespace S
open PySem PySem.Spec PyProof.Rows L2
/-- [e for x, y in xs]: of pairs known ahead -/
theorem lc_tup {α : Type} {K : Frag} {p : Addr} {i k : Nat} {te : TE} {vs : List Nat} {σ : L2.St} {H1 : Hp} {Q : VK} {ys : List V} (as : List α) (f1 f2 : α → V) (R : Addr → α → V → Hp → Prop) (hx : SqA K H1 p ys) (hP : Paired (fun r y => ∃ a, y = .ref a ∧ SqT K H1 a [f1 r, f2 r]) as ys) (hz : as.length < sizeLine)
    (mono : ∀ D a y H H' l, H D = some (.lst l) → R D a y H → SameX D H H' → R D a y H')
    (hs : ∀ (D : Addr) (l : List V) (j : Nat) (a : α) (H : Hp) (A : V → Hp → Prop), H1 D = none → H D = some (.lst l) → as[j]? = some a → Same H1 H → (∀ y H', Same H H' → R D a y H' → A y H') → wipe (((wipe σ vs).set i (some (f1 a))).set k (some (f2 a))) vs = wipe σ vs ∧ te (((wipe σ vs).set i (some (f1 a))).set k (some (f2 a))) H A)
    (hd : ∀ D zs H', H1 D = none → H' D = some (.lst zs) → Paired (fun a y => R D a y H') as zs → Same H1 H' → Q (.ref D) H') :
    Walk K H1 p (Wr (LcGo (gTup K 2 (gCons (gName i) (gCons (gName k) gNil))) tYes te vs σ Q)) := by
  have hlen0 := Paired.length hP
  refine lc_seq hx fun D hD => ⟨fun j H => ∃ zs, H D = some (.lst zs) ∧ Paired (fun a y => R D a y H) (as.take j) zs ∧ Same H1 H, ⟨[], upd_same, .nil, same_new hD⟩, fun i H _ ⟨_, _, _, e⟩ ys => ⟨e.seq, Same.tup e⟩, ?_, fun H ⟨ys, h1, h2, e⟩ => hd D ys H hD h1 (by rw [← hlen0, List.take_length] at h2; exact h2) e⟩
  rintro j x H hi ⟨zs, h1, h2, e⟩
  obtain ⟨a, hj, ad, rfl, hT⟩ := paired_get hP hi
  have hil : j < as.length := (List.getElem?_eq_some_iff.mp hj).1
  have hlen : zs.length ≤ j := by
    rw [← h2.length, List.length_take]; exact Nat.min_le_left _ _
  obtain ⟨w, q⟩ := hs D zs j a H (fun y H4 => ∃ acc, H4 D = some (.lst acc) ∧ acc.length < sizeLine ∧ ∃ ys, upd H4 D (.lst (acc ++ [y])) D = some (.lst ys) ∧ Paired (fun a y' => R D a y' (upd H4 D (.lst (acc ++ [y])))) (as.take (j + 1)) ys ∧ Same H1 (upd H4 D (.lst (acc ++ [y])))) hD h1 hj e fun y H' e2 r => by
    have si : SameX D H' (L2.upd H' D (.lst (zs ++ [y]))) := SameX.upd
    refine ⟨zs, e2 _ _ h1, by omega, zs ++ [y], upd_same, ?_, fun b o hb => ?_⟩
    · rw [List.take_succ, hj]
      exact Paired.snoc (Paired.mapP h2 fun a b r => mono _ _ _ _ _ _ h1 r (Same.thenX e2 si)) (mono _ _ _ _ _ _ (e2 _ _ h1) r si)
    · rw [upd_ne (ne_of_none hb hD)]
      exact e2 _ _ (e _ _ hb)
  refine ⟨ad, [f1 a, f2 a], rfl, Same.tup e hT, rfl, _, _, rfl, _, _, rfl, rfl, w, ?_⟩
  unfold tYes
  dsimp only
  rw [if_pos rfl]
  exact q
theorem Cm.congr {K : Frag} {H : Hp} {a : Addr} {n : Int} {f g : Int → Option Int} {S : List Int} (h : Cm K H a n f S) (e : ∀ row, 0 ≤ row → row < n → f row = g row) : Cm K H a n g S := by
  obtain ⟨cf, n0, kn, dx, pr, q, M, sl, ⟨es, b1, b2, b3⟩, hq, bM, ne, lM, num, wide⟩ := h
  exact ⟨cf, n0, kn, dx, pr, q, M, sl, ⟨es, b1, b2, fun row r0 r1 => by rw [b3 row r0 r1]; show (f row).isSome = _; rw [e row r0 r1]⟩, hq, bM, ne, lM, fun row r0 r1 => by rw [num row r0 r1, e row r0 r1], fun hl => by
    obtain ⟨row, r0, r1, hw⟩ := wide hl
    exact ⟨row, r0, r1, by rw [← e row r0 r1]; exact hw⟩⟩
end S
namespace S
open PySem PySem.Spec PyProof.Rows L2
end S
namespace S
open PySem PySem.Spec PyProof.Rows L2
end S
-- fn: number_at Column.slice_at
-- law: k15
-- enA: yes
-- in: Bitmap
-- deps: Column_init width_for Bitmap_contains
namespace S
open PySem PySem.Spec PyProof.Rows L2
theorem Bs.congr {K : Frag} {H : Hp} {z : Addr} {n : Int} {f g : Int → Bool} {S : List Int} (h : Bs K H z n f S) (e : ∀ row, 0 ≤ row → row < n → f row = g row) : Bs K H z n g S := let ⟨es, a, b, c⟩ := h; ⟨es, a, b, fun row r0 r1 => by rw [c row r0 r1, e row r0 r1]⟩
end S
namespace S
open PySem PySem.Spec PyProof.Rows L2
end S
-- fn: Column.of_values
-- law: k15
-- deps: Column_of_runs
namespace S
open PySem PySem.Spec PyProof.Rows L2
def ones (L : List (Option Int)) : List (Int × Option Int) := L.map fun v => (1, v)
end S
namespace S
open PySem PySem.Spec PyProof.Rows L2
end S
-- fn: _law_number
-- law: k15
-- deps: D0 D1 _law_draw _law_wide
namespace S
open PySem PySem.Spec PyProof.Rows L2
end S
namespace S
open PySem PySem.Spec PyProof.Rows L2
end S
-- fn: _law_value
-- law: k15
-- deps: _law_number width_for Tw Column_of_runs
namespace S
open PySem PySem.Spec PyProof.Rows L2
end S
-- deps: D0 D1
namespace S
open PySem PySem.Spec PyProof.Rows L2
theorem dp_bls {K : Frag} {H : Hp} : ∀ ns : List Bool, DpAll K H (ns.map V.bl) (ns.map PyData.bool)
  | [] => .nil
  | n :: r => .cons (.bl n) (dp_bls r)
theorem can_bls : ∀ ns : List Bool, PyData.canLayAll0 (ns.map PyData.bool) = true
  | [] => rfl
  | n :: r => by
    show (PyData.canLay0 (.bool n) && PyData.canLayAll0 (r.map PyData.bool)) = true
    rw [can_bls r]; rfl
theorem dep_bls : ∀ ns : List Bool, PyData.depthAll (ns.map PyData.bool) = 0
  | [] => rfl
  | n :: r => by
    show max (PyData.depth (.bool n)) (PyData.depthAll (r.map PyData.bool)) = 0
    rw [dep_bls r]; rfl
theorem shp_bls (ns : List Bool) : SeqAt.shaped (.list (ns.map PyData.bool)) = true := by
  unfold SeqAt.shaped
  have e1 : PyData.canLay0 (.list (ns.map PyData.bool)) = true := can_bls ns
  have e2 : PyData.depth (.list (ns.map PyData.bool)) = 1 := by show PyData.depthAll _ + 1 = 1; rw [dep_bls]
  rw [e1, e2]; rfl
theorem eqv_bls : ∀ xs ys : List Bool, PyData.eqvAll (xs.map PyData.bool) (ys.map PyData.bool) = decide (xs = ys)
  | [], [] => rfl
  | [], _ :: _ => by simp [PyData.eqvAll]
  | _ :: _, [] => by simp [PyData.eqvAll]
  | x :: xs, y :: ys => by
    show (PyData.eqv (.bool x) (.bool y) && PyData.eqvAll (xs.map PyData.bool) (ys.map PyData.bool)) = _
    rw [eqv_bls xs ys]
    have e : PyData.eqv (.bool x) (.bool y) = decide (x = y) := by cases x <;> cases y <;> rfl
    rw [e]
    by_cases h : x = y <;> by_cases h2 : xs = ys <;> simp [h, h2]
theorem eqd_bb {K : Frag} {H : Hp} {a b : Addr} {xs ys : List Bool} {k : Bool → Prop} (h : SqL K H a (xs.map V.bl)) (h2 : SqL K H b (ys.map V.bl)) (q : k (decide (xs = ys))) : EqD K H (.ref a) (.ref b) k :=
  ⟨_, _, .lst h (dp_bls xs), .lst h2 (dp_bls ys), shp_bls xs, shp_bls ys, by
    have e : PyData.eqv (.list (xs.map PyData.bool)) (.list (ys.map PyData.bool)) = decide (xs = ys) := eqv_bls xs ys
    rw [e]; exact q⟩
end S
-- law: k15
-- deps: Column_of_values _law_value D0 D1 eqd_bb Column_at
namespace S
open PySem PySem.Spec PyProof.Rows L2
theorem Cm.x {K : Frag} {H H' : Hp} {a st : Addr} {n : Int} {vf : Int → Option Int} {S : List Int} {l : List V} (h : Cm K H a n vf S) (e : SameX st H H') (hst : H st = some (.lst l)) : Cm K H' a n vf S := by
  obtain ⟨c, n0, kn, dx, p, q, M, h1, h2, h3, h4, h5, h6, h7, h8⟩ := h
  exact ⟨c, n0, kn, dx, p, q, M, e.slt hst h1, h2.x e hst, e.tup h3 hst, h4.x e hst, h5, h6, h7, h8⟩
/-! lists of numbers, None for none -/
/-! ### a column's width is the widest of its rows' -/
end S
-- deps: Column_of_runs Column_at Cx
/-! ## comparing bit by bit, from the top -/
namespace S
open PySem PySem.Spec PyProof.Rows L2
def cmpO (r : Int → Int → Bool) (v w : Option Int) : Bool := match v, w with
  | some a, some b => r a b
  | _, _ => false
def eqO (p : Nat) : Option Int → Option Int → Bool := cmpO fun a b => decide (a / 2 ^ p = b / 2 ^ p)
section
variable {K : Frag} {H : Hp} {x y : Addr} {n : Int} {f g : Int → Bool} {S : List Int} {Q : VK} {E : XK}
theorem Bs.mono {S' : List Int} (h : Bs K H x n f S) (hs : ∀ z ∈ S, z ∈ S') : Bs K H x n f S' := let ⟨es, a, b, c⟩ := h; ⟨es, a, fun z hz => hs z (b z hz), c⟩
theorem Cm.mono {S' : List Int} {vf : Int → Option Int} (h : Cm K H x n vf S) (kn : Kn S') (hs : ∀ z ∈ S, z ∈ S') : Cm K H x n vf S' := by
  obtain ⟨c, n0, _, dx, p, q, M, h1, h2, h3, h4, h5, h6, h7, h8⟩ := h
  exact ⟨c, n0, kn, dx, p, q, M, h1, h2.mono hs, h3, fun t ht => (h4 t ht).mono hs, h5, h6, h7, h8⟩
end
end S
-- deps: Bs Cmp
/-! ## whether a bitmap has a row, as a test -/
namespace S
open PySem PySem.Spec PyProof.Rows L2
def anyR (n : Int) (f : Int → Bool) : Prop := ∃ row, 0 ≤ row ∧ row < n ∧ f row = true
theorem ends_any {n : Int} {es : List Int} (hE : Ends n es) : es ≠ [] ↔ anyR n (inB es) := by
  cases es with
  | nil => exact ⟨fun h => absurd rfl h, fun ⟨_, _, _, h⟩ => by cases h⟩
  | cons e es =>
    have he := hE.2 e (List.mem_cons_self ..)
    have hlt := (List.pairwise_cons.mp hE.1).1
    refine ⟨fun _ => ⟨e, he.1, he.2, ?_⟩, fun _ z => by cases z⟩
    rw [inB_cons, if_pos (Int.le_refl _), inB_before hlt]; rfl
theorem bs_size {K : Frag} {H : Hp} {x : Addr} {n : Int} {f : Int → Bool} {S : List Int} {k : V → Prop} (h : Bs K H x n f S) (q : k (.int n)) : Atr K H x "size" k := by
  obtain ⟨es, ⟨c, _, _, dx, p, a, _⟩, _⟩ := h
  exact Atr.sl c a (i := 1) rfl rfl q
end S
namespace S
open PySem PySem.Spec PyProof.Rows L2
def t_Storedd_initdd_b1_2 (K : Frag) (E : XK) : TS :=
    tAsg (tOp (oIxD K) (dVar 3) (dVar 5)) (gSub (dVar 4) (dVar 5) oSetD)
def t_Storedd_initdd_b1_1 (K : Frag) (E : XK) : TS :=
    tSeq (dIfS (dCmpT (oNe K) (dAt K "size" (tOp (oIxD K) (dVar 3) (dVar 5))) (dVar 2)) (dGivS (ExF K "SizesDiffer" ["SliceError"]) (dRaise K "SizesDiffer" (WD E))) (tNext))
    (stop (t_Storedd_initdd_b1_2 K E))
def t_Storedd_initdd_b1 (K : Frag) (E : XK) : TS :=
    tSeq (dIfS (dCmpT (oNinD K) (dVar 5) (dVar 3)) (dGivS (ExF K "NoSuchSlice" ["SliceError"]) (dRsI2 K "NoSuchSlice" "name" "place" (WD E) (tCons (tOp (oIxD K) (dVar 5) (tC (.int 0))) (tCons (tOp (oIxD K) (dVar 5) (tC (.int 1))) (tNil))))) (tNext))
    (stop (t_Storedd_initdd_b1_1 K E))
def t_Storedd_initdd_6 (K : Frag) (E : XK) : TS :=
    dSto K "log" (dLst (tNil)) (dVar 0)
def t_Storedd_initdd_5 (K : Frag) (E : XK) : TS :=
    tSeq (dSto K "held" (dVar 4) (dVar 0))
    (stop (t_Storedd_initdd_6 K E))
def t_Storedd_initdd_4 (K : Frag) (E : XK) : TS :=
    tSeq (dSto K "size" (dVar 2) (dVar 0))
    (stop (t_Storedd_initdd_5 K E))
def t_Storedd_initdd_3 (K : Frag) (E : XK) : TS :=
    tSeq (dSto K "schema" (dVar 1) (dVar 0))
    (stop (t_Storedd_initdd_4 K E))
def t_Storedd_initdd_2 (K : Frag) (E : XK) : TS :=
    tSeq (dFor (iSeq K (dMethD K "Schema" "all_slices" (sp_Schema_all_slices K) (EW E) (dVar 1) tNil)) (gName 5) (t_Storedd_initdd_b1 K E))
    (stop (t_Storedd_initdd_3 K E))
def t_Storedd_initdd_1 (K : Frag) (E : XK) : TS :=
    tSeq (tAsg (dNewT) (gName 4))
    (stop (t_Storedd_initdd_2 K E))
def t_Storedd_initdd (K : Frag) (E : XK) : TS :=
    tSeq (dIfS (dCmpT oLt (dVar 2) (tC (.int 0))) (dGivS (ExF K "BadBitmap" ["SliceError"]) (dRaise K "BadBitmap" (WD E))) (tNext))
    (stop (t_Storedd_initdd_1 K E))
end S
-- fn: Store.__init__
-- law: k43
-- dict: held kept
-- dT: yes
-- deps: Held Fstay Nef
namespace S
open PySem PySem.Spec PyProof.Rows L2
/-- the dict handed in has a bitmap of n rows for the slice -/
def goodS (kvs : List (List Key × V)) (n : Int) (mo : Col → Int) (c : Col) : Prop := (valV kvs (keyC c)).isSome = true ∧ mo c = n
def sp_Storedd_initdd (K : Frag) : Sp := fun vs H Q E => ∃ (H0 : Hp) (x dx s q : Addr) (n : Int) (cs : List Col) (kvs : List (List Key × V)) (mo : Col → Int) (he : Col → List Int), vs = [.ref x, .ref s, .int n, .ref q] ∧ StoF K ∧ H0 x = none ∧ Same H0 H ∧ H x = some (.ins (He.ga K "Store") dx []) ∧ Sc K H0 s cs ∧ (∀ c ∈ cs, c.2 ≤ 1000) ∧ cs.length ≤ 10 ∧ H0 q = some (.dT kvs) ∧
  (∀ c ∈ slicesOf cs, ∀ v, valV kvs (keyC c) = some v → ∃ b, v = .ref b ∧ Bm K H0 b (mo c) (he c)) ∧
  (n < 0 → XF K "BadBitmap" → ∀ H', Same H0 H' → E (.ref (He.ga K "BadBitmap")) none H') ∧
  (0 ≤ n → ((∀ c ∈ slicesOf cs, goodS kvs n mo c) → ∀ l d H', Same H0 H' → H0 l = none → H0 d = none → StO K H' x l d cs n he [] → Q .non H') ∧
    ∀ A c B, slicesOf cs = A ++ c :: B → (∀ a ∈ A, goodS kvs n mo a) →
      (valV kvs (keyC c) = none → XE K "NoSuchSlice" → ∀ H' d, Same H0 H' → H' d = none → E (.ref (He.ga K "NoSuchSlice")) (some d) (upd H' d (.xd [("place", .int c.2), ("name", .str c.1)]))) ∧
      ((valV kvs (keyC c)).isSome = true → mo c ≠ n → XF K "SizesDiffer" → ∀ H', Same H0 H' → E (.ref (He.ga K "SizesDiffer")) none H'))
theorem bm_size {K : Frag} {H : Hp} {x : Addr} {n : Int} {es : List Int} {k : V → Prop} (h : Bm K H x n es) (q : k (.int n)) : Atr K H x "size" k := by
  obtain ⟨c, _, _, dx, p, a, _⟩ := h
  exact Atr.sl c a (i := 1) rfl rfl q
theorem pure_Storedd_initdd {K : Frag} (vs : List V) (H : Hp) (Q : VK) (E : XK) (h : sp_Storedd_initdd K vs H Q E) : t_Storedd_initdd K E { nx := fun _ H' => Q .non H', rt := Q } (start ["self", "schema", "size", "held", "kept", "piece"] vs) H := by
  obtain ⟨H0, x, dx, s, q, n, cs, kvs, mo, he, rfl, sf, nx, e0, hx, hS, hw, lc, hq, hv, bad, good⟩ := h
  have hS1 := hS.same e0
  obtain ⟨scf, gc, _, dxs, us, yss, hs0, _⟩ := id hS
  have nds := slicesOf_nodup gc.1
  have lsl : (slicesOf cs).length ≤ 10010 := by have := slicesOf_len cs hw; omega
  walk_at "gx"
  refine ifd (fun hn => ?_) (fun hn => ?_)
  · have hn : n < 0 := hn
    exact fun xf => bad hn xf _ e0
  have hn : ¬ n < 0 := hn
  obtain ⟨good, bads⟩ := good (by omega)
  refine ⟨?_⟩
  walk_at "gx"
  refine ⟨fun k nk => ?_⟩
  have e1 := same_new (o := .dT []) nk
  have hk1 : upd H k (.dT []) k = some (.dT []) := upd_same
  have nk0 : H0 k = none := by
    cases h : H0 k with
    | none => rfl
    | some o => rw [e0 _ _ h] at nk; cases nk
  have e01 := e0.trans e1
  have hx1 := e1 _ _ hx
  have kx : k ≠ x := fun z => by subst z; rw [hx] at nk; cases nk
  generalize upd H k (.dT []) = H1 at *
  walk_at "gx"
  refine IsD.of (e01 _ _ hs0) ?_
  refine ⟨s, cs, rfl, hS.same e01, hw, fun D ys H2 e2 nD hD hC => ?_⟩
  have e02 := e01.trans e2
  have hk2 := e2 _ _ hk1
  have hx2 := e2 _ _ hx1
  have Dk : D ≠ k := fun z => by subst z; rw [hk1] at nD; cases nD
  refine for_lst (K := K) (xs := ys) (fun i σ W => ∃ (kv : List (List Key × V)) (x5 : Option V), σ = [some (.ref x), some (.ref s), some (.int n), some (.ref q), some (.ref k), x5] ∧ Same H0 W ∧ SameX k H2 W ∧ W k = some (.dT kv) ∧ kv.map (fun t => t.1) = ((slicesOf cs).take i).map keyC ∧ (∀ c ∈ (slicesOf cs).take i, valV kv (keyC c) = valV kvs (keyC c)) ∧ (∀ c ∈ (slicesOf cs).take i, goodS kvs n mo c)) hD ⟨[], _, rfl, e02, SameX.refl _ _, hk2, by rw [List.take_zero]; rfl, fun c hc => by simp at hc, fun c hc => by simp at hc⟩ (fun i σ W ⟨_, _, _, _, e, _⟩ => e _ _ hD Dk) ?_ ?_
  · rintro i v σ W hi ⟨kv, x5, rfl, eW, sW, hkW, hkeys, hvals, hgood⟩
    obtain ⟨c, hc, a, rfl, ha⟩ := colsK_at hC hi
    have haW := sW _ _ ha (fun z => by subst z; rw [hk2] at ha; cases ha)
    have hat : SqT K W a [.str c.1, .int c.2] := SqT.of haW
    have hqW := eW _ _ hq
    have hcm := List.mem_of_getElem? hc
    have il : i < (slicesOf cs).length := (List.getElem?_eq_some_iff.mp hc).1
    have spl : slicesOf cs = (slicesOf cs).take i ++ c :: (slicesOf cs).drop (i + 1) := by
      obtain ⟨l, g⟩ := List.getElem?_eq_some_iff.mp hc
      rw [← g, ← List.drop_eq_getElem_cons l, List.take_append_drop]
    obtain ⟨b1, b2⟩ := bads _ _ _ spl hgood
    have lkv : kv.length = i := by have := congrArg List.length hkeys; rw [List.length_map, List.length_map, List.length_take] at this; omega
    walk_at "gx"
    refine DIn.t (ks := keyC c) (.inl hqW) haW ?_
    cases hval : valV kvs (keyC c) with
    | none =>
      refine fun xf => ?_
      walk_at "gx"
      refine RsI2.of fun d nd => ?_
      exact b1 hval xf W d eW nd
    | some v =>
      obtain ⟨b, rfl, hb⟩ := hv c hcm v hval
      refine ⟨?_⟩
      walk_at "gx"
      refine DG.t (ks := keyC c) (.inl hqW) haW hval ?_
      refine bm_size (hb.same eW) ?_
      refine ifn (fun hm => ?_) (fun hm => ?_)
      · exact fun xf => b2 (by rw [hval]; rfl) (fun z => hm z) xf W eW
      · have hm : mo c = n := hm
        refine ⟨?_⟩
        walk_at "gx"
        refine DG.t (ks := keyC c) (.inl hqW) haW hval ?_
        refine StD.t (ks := keyC c) hkW haW (by rw [lkv, sizeLine_eq]; omega) ?_
        have fresh : valV kv (keyC c) = none := by
          cases h : valV kv (keyC c) with
          | none => rfl
          | some z =>
            exfalso
            unfold valV at h
            obtain ⟨t, ht, _⟩ := Option.map_eq_some_iff.mp h
            have h1 := List.find?_some ht
            have h2 := List.mem_of_find?_eq_some ht
            have h1 : t.1 = keyC c := of_decide_eq_true h1
            have : keyC c ∈ ((slicesOf cs).take i).map keyC := by rw [← hkeys]; exact List.mem_map.mpr ⟨t, h2, h1⟩
            obtain ⟨c2, hc2, e2⟩ := List.mem_map.mp this
            rw [keyC_inj e2] at hc2
            exact nodup_take nds hc hc2
        refine ⟨putK kv (keyC c) (.ref b), _, rfl, Same.mut eW nk0, sW.trans SameX.upd, upd_same, ?_, fun d hd => ?_, fun d hd => ?_⟩
        · rw [putK_new _ fresh, List.map_append, hkeys, List.take_add_one, hc, List.map_append]; rfl
        · rw [valV_put]
          by_cases hdc : keyC d = keyC c
          · rw [if_pos hdc, keyC_inj hdc, hval]
          · rw [if_neg hdc]
            rw [List.take_add_one, hc] at hd
            rcases List.mem_append.mp hd with hd | hd
            · exact hvals d hd
            · exact absurd (congrArg keyC (List.mem_singleton.mp hd)) hdc
        · rw [List.take_add_one, hc] at hd
          rcases List.mem_append.mp hd with hd | hd
          · exact hgood d hd
          · rw [List.mem_singleton.mp hd]; exact ⟨by rw [hval]; rfl, hm⟩
  · rintro σ W ⟨kv, x5, rfl, eW, sW, hkW, hkeys, hvals, hgood⟩
    have ly : ys.length = (slicesOf cs).length := (Paired.length hC).symm
    rw [ly, List.take_length] at hkeys hvals hgood
    have hxW := sW _ _ hx2 (Ne.symm kx)
    walk_at "gx"
    refine Sto.df sf hxW (by show 0 < 1000; decide) ?_
    have e3 : Same H0 (upd W x (.ins (He.ga K "Store") dx [("schema", .ref s)])) := Same.mut eW nx
    have hx3 : upd W x (.ins (He.ga K "Store") dx [("schema", .ref s)]) x = some (.ins (He.ga K "Store") dx [("schema", .ref s)]) := upd_same
    have hk3 : upd W x (.ins (He.ga K "Store") dx [("schema", .ref s)]) k = some (.dT kv) := by rw [upd_ne kx]; exact hkW
    show stop _ _ _ (upd W x (.ins (He.ga K "Store") dx [("schema", .ref s)]))
    generalize upd W x (.ins (He.ga K "Store") dx [("schema", .ref s)]) = H3 at *
    walk_at "gx"
    refine Sto.df sf hx3 (by show 1 < 1000; decide) ?_
    have e4 : Same H0 (upd H3 x (.ins (He.ga K "Store") dx [("schema", .ref s), ("size", .int n)])) := Same.mut e3 nx
    have hx4 : upd H3 x (.ins (He.ga K "Store") dx [("schema", .ref s), ("size", .int n)]) x = some (.ins (He.ga K "Store") dx [("schema", .ref s), ("size", .int n)]) := upd_same
    have hk4 : upd H3 x (.ins (He.ga K "Store") dx [("schema", .ref s), ("size", .int n)]) k = some (.dT kv) := by rw [upd_ne kx]; exact hk3
    show stop _ _ _ (upd H3 x (.ins (He.ga K "Store") dx [("schema", .ref s), ("size", .int n)]))
    generalize upd H3 x (.ins (He.ga K "Store") dx [("schema", .ref s), ("size", .int n)]) = H4 at *
    walk_at "gx"
    refine Sto.df sf hx4 (by show 2 < 1000; decide) ?_
    have e5 : Same H0 (upd H4 x (.ins (He.ga K "Store") dx [("schema", .ref s), ("size", .int n), ("held", .ref k)])) := Same.mut e4 nx
    have hx5 : upd H4 x (.ins (He.ga K "Store") dx [("schema", .ref s), ("size", .int n), ("held", .ref k)]) x = some (.ins (He.ga K "Store") dx [("schema", .ref s), ("size", .int n), ("held", .ref k)]) := upd_same
    have hk5 : upd H4 x (.ins (He.ga K "Store") dx [("schema", .ref s), ("size", .int n), ("held", .ref k)]) k = some (.dT kv) := by rw [upd_ne kx]; exact hk4
    show stop _ _ _ (upd H4 x (.ins (He.ga K "Store") dx [("schema", .ref s), ("size", .int n), ("held", .ref k)]))
    generalize upd H4 x (.ins (He.ga K "Store") dx [("schema", .ref s), ("size", .int n), ("held", .ref k)]) = H5 at *
    walk_at "gx"
    refine ⟨fun l nl => ?_⟩
    have e6 := e5.trans (same_new (o := .lst ([] : List V)) nl)
    have hl6 : upd H5 l (.lst ([] : List V)) l = some (.lst []) := upd_same
    have hx6 := (same_new (o := .lst ([] : List V)) nl) _ _ hx5
    have hk6 := (same_new (o := .lst ([] : List V)) nl) _ _ hk5
    have nl0 : H0 l = none := by
      cases h : H0 l with
      | none => rfl
      | some o => rw [e5 _ _ h] at nl; cases nl
    have lx : l ≠ x := fun z => by subst z; rw [hx5] at nl; cases nl
    generalize upd H5 l (.lst ([] : List V)) = H6 at *
    refine Sto.df sf hx6 (by show 3 < 1000; decide) ?_
    have e7 : Same H0 (upd H6 x (.ins (He.ga K "Store") dx [("schema", .ref s), ("size", .int n), ("held", .ref k), ("log", .ref l)])) := Same.mut e6 nx
    refine good hgood l k _ e7 nl0 nk0 ?_
    refine ⟨sf, by omega, hw, lc, dx, s, [], upd_same, hS.same e7, ⟨kv, by rw [upd_ne kx]; exact hk6, hkeys, fun c hc => ?_⟩, by rw [upd_ne lx]; exact hl6, .nil⟩
    obtain ⟨h1, h2⟩ := hgood c hc
    obtain ⟨v, hv1⟩ := Option.isSome_iff_exists.mp h1
    obtain ⟨b, rfl, hb⟩ := hv c hc v hv1
    rw [hvals c hc]
    rw [h2] at hb
    exact ⟨b, hv1, hb.same e7⟩
/-- a store is made -/
theorem mk_store {K : Frag} {H : Hp} {s q : Addr} {n : Int} {cs : List Col} {kvs : List (List Key × V)} {mo : Col → Int} {he : Col → List Int} {R : Addr → Hp → Prop} {E : XK} (sf : StoF K) (hS : Sc K H s cs) (hw : ∀ c ∈ cs, c.2 ≤ 1000) (lc : cs.length ≤ 10) (hq : H q = some (.dT kvs))
    (hv : ∀ c ∈ slicesOf cs, ∀ v, valV kvs (keyC c) = some v → ∃ b, v = .ref b ∧ Bm K H b (mo c) (he c)) (bad : n < 0 → XF K "BadBitmap" → ∀ H', Same H H' → E (.ref (He.ga K "BadBitmap")) none H')
    (good : 0 ≤ n → ((∀ c ∈ slicesOf cs, goodS kvs n mo c) → ∀ x l d H', Same H H' → H x = none → H l = none → H d = none → StO K H' x l d cs n he [] → R x H') ∧
      ∀ A c B, slicesOf cs = A ++ c :: B → (∀ a ∈ A, goodS kvs n mo a) →
        (valV kvs (keyC c) = none → XE K "NoSuchSlice" → ∀ H' d, Same H H' → H' d = none → E (.ref (He.ga K "NoSuchSlice")) (some d) (upd H' d (.xd [("place", .int c.2), ("name", .str c.1)]))) ∧
        ((valV kvs (keyC c)).isSome = true → mo c ≠ n → XF K "SizesDiffer" → ∀ H', Same H H' → E (.ref (He.ga K "SizesDiffer")) none H')) :
    NewI K H "Store" fun x H2 => sp_Storedd_initdd K [.ref x, .ref s, .int n, .ref q] H2 (fun v H3 => v = .non ∧ R x H3) E := by
  refine ⟨fun x dx h1 h2 hne => ?_⟩
  have e : Same H (upd (upd H dx (.own x)) x (.ins (He.ga K "Store") dx [])) := fun b o h => by
    rw [upd_ne (ne_of_none h h1), upd_ne (ne_of_none h h2)]; exact h
  exact ⟨H, x, dx, s, q, n, cs, kvs, mo, he, rfl, sf, h1, e, upd_same, hS, hw, lc, hq, hv, bad, fun n0 => ⟨fun g l d H' e' nl nd hs => ⟨rfl, (good n0).1 g x l d H' e' h1 nl nd hs⟩, (good n0).2⟩⟩
end S
-- deps: Fr Store_init Bitmap_init Schema_init Fstay
/-! ## law k43: ends by slices -/
namespace S
open PySem PySem.Spec PyProof.Rows L2
end S
-- deps: L43a D0 D1
/-! ## law k43: two stores and their logs -/
namespace S
open PySem PySem.Spec PyProof.Rows L2
theorem Ctx.fx {K : Frag} {V0 H H' : Hp} {a st q : Addr} (c : Ctx K H a st) (x : SameX q H H') (e : Ctx K V0 a st) (n : V0 q = none) : Ctx K H' a st := by
  obtain ⟨⟨ns, h⟩, l, hl, d⟩ := c
  obtain ⟨⟨ns0, h0⟩, l0, hl0, d0⟩ := e
  have n1 : st ≠ q := ne_of_none hl0 n
  refine ⟨?_, l, x _ _ hl n1, d⟩
  rcases h with ⟨na, h⟩ | h
  · by_cases e : a = q
    · subst e
      rcases h0.sl with (h0 | ⟨_, h0⟩) | h0
      · rw [n] at h0; cases h0
      · rw [n] at h0; cases h0
      · exact ⟨ns0, .inr fun H' => .inr h0⟩
    · exact ⟨ns, .inl ⟨na, x.seq h e⟩⟩
  · exact ⟨ns, .inr h⟩
section
variable {K : Frag} {M : List Addr} {V0 U W W' : Hp} {a st g : Addr} {cs : List Col} {n : Int} {xx d : Nat → Addr} {he : Nat → Col → List Int} {l L : Nat → Addr} {lgS lgP : Nat → List Col}
end
end S
namespace S
open PySem PySem.Spec PyProof.Rows L2
def t__law_is_number (K : Frag) (E : XK) : TS :=
    tRet (dAndV (tCB (cIsi K) (tCons (dVar 0) (tCons (tC (.ty "int")) (tNil)))) (dNotV (tCB (cIsi K) (tCons (dVar 0) (tCons (tC (.ty "bool")) (tNil))))))
end S
-- fn: _law_is_number
-- law: k03
-- deps: D0
namespace S
open PySem PySem.Spec PyProof.Rows L2
def sp__law_is_number (K : Frag) : Sp := fun vs H Q _ => ∃ (i : Int), vs = [.int i] ∧ Q (.bl true) H
theorem isi_int {K : Frag} {H : Hp} {i : Int} {k : Bool → Prop} (q : k true) : Isi K H (.int i) (.type "int") k := Isi.of (.base (.int i)) rfl q
theorem isi_int_bool {K : Frag} {H : Hp} {i : Int} {k : Bool → Prop} (q : k false) : Isi K H (.int i) (.type "bool") k := Isi.of (.base (.int i)) rfl q
theorem pure__law_is_number {K : Frag} (vs : List V) (H : Hp) (Q : VK) (E : XK) (h : sp__law_is_number K vs H Q E) : t__law_is_number K E { nx := fun _ H' => Q .non H', rt := Q } (start ["_law_x"] vs) H := by
  obtain ⟨i, rfl, q⟩ := h
  refine isi_int ?_
  refine isi_int_bool ?_
  exact q
end S
namespace S
open PySem PySem.Spec PyProof.Rows L2
def t_Bitmap_rank_b1 (K : Frag) (E : XK) : TS :=
    dIfS (dCmpT oLt (dVar 4) (dVar 1)) (tAsg (tOp (oAdd K) (dVar 2) (tOp oMulA (tOp oSub (dVar 1) (dVar 4)) (tOp oSub (tC (.int 1)) (tOp oMulA (tC (.int 2)) (tOp oAnd (dVar 3) (tC (.int 1))))))) (gName 2)) (tNext)
def t_Bitmap_rank_3 (K : Frag) (E : XK) : TS :=
    tRet (dVar 2)
def t_Bitmap_rank_2 (K : Frag) (E : XK) : TS :=
    tSeq (dFor (iEn K (dAt K "ends" (dVar 0))) (gTup K 2 (gCons (gName 3) (gCons (gName 4) (gNil)))) (t_Bitmap_rank_b1 K E))
    (stop (t_Bitmap_rank_3 K E))
def t_Bitmap_rank_1 (K : Frag) (E : XK) : TS :=
    tSeq (tAsg (tC (.int 0)) (gName 2))
    (stop (t_Bitmap_rank_2 K E))
def t_Bitmap_rank (K : Frag) (E : XK) : TS :=
    tSeq (dIfS (dNot (dChainT oLe oLe (tC (.int 0)) (dVar 1) (dAt K "size" (dVar 0)))) (dGivS (ExF K "NoSuchRow" ["SliceError"]) (dRsI K "NoSuchRow" "row" (WD E) 1)) (tNext))
    (stop (t_Bitmap_rank_1 K E))
end S
-- fn: Bitmap.rank
-- law: k11
-- deps: Bm _law_in swept Bitmap_init
namespace S
open PySem PySem.Spec PyProof.Rows L2
/-- the rows below the row, by the ends; s: 1 at an end that begins, -1 at one that stops -/
def rankF (row : Int) : List Int → Int → Int
  | [], _ => 0
  | e :: r, s => (if e < row then (row - e) * s else 0) + rankF row r (-s)
theorem rankF_snoc (row x : Int) : ∀ (l : List Int) (s : Int), rankF row (l ++ [x]) s = rankF row l s + (if x < row then (row - x) * (if l.length % 2 = 0 then s else -s) else 0)
  | [], s => by simp [rankF]
  | e :: r, s => by
    show (if e < row then (row - e) * s else 0) + rankF row (r ++ [x]) (-s) = (if e < row then (row - e) * s else 0) + rankF row r (-s) + _
    have k : (if r.length % 2 = 0 then -s else - -s) = (if (r.length + 1) % 2 = 0 then s else -s) := by
      by_cases h : r.length % 2 = 0
      · rw [if_pos h, if_neg (by omega)]
      · rw [if_neg h, if_pos (by omega), Int.neg_neg]
    rw [rankF_snoc row x r (-s), List.length_cons, k, Int.add_assoc]
def sp_Bitmap_rank (K : Frag) : Sp := fun vs H Q E => ∃ (x : Addr) (n row : Int) (es : List Int), vs = [.ref x, .int row] ∧ Bm K H x n es ∧ n ≤ 2 * 10 ^ 18 ∧ es.length ≤ 50000 ∧ (0 ≤ row → row ≤ n → ∀ H', Same H H' → Q (.int (rankF row es 1)) H') ∧
  (¬ (0 ≤ row ∧ row ≤ n) → XF K "NoSuchRow" → ∀ d, H d = none → E (.ref (He.ga K "NoSuchRow")) (some d) (upd H d (.xd [("row", .int row)])))
theorem sgn (i : Nat) : 1 - 2 * Builtin.bitAnd (i : Int) 1 = if i % 2 = 0 then 1 else -1 := by
  rw [bitAnd_m1]
  by_cases h : i % 2 = 0
  · rw [if_pos h]; omega
  · rw [if_neg h]; omega
theorem pure_Bitmap_rank {K : Frag} (vs : List V) (H : Hp) (Q : VK) (E : XK) (h : sp_Bitmap_rank K vs H Q E) : t_Bitmap_rank K E { nx := fun _ H' => Q .non H', rt := Q } (start ["self", "row", "below", "k", "end"] vs) H := by
  obtain ⟨x, n, row, es, rfl, hb, n1, hl, good, bad⟩ := h
  obtain ⟨c, n0, hE, dx, p, hs, hp⟩ := id hb
  have raise : ¬ (0 ≤ row ∧ row ≤ n) → ∀ k, dGivS (ExF K "NoSuchRow" ["SliceError"]) (dRsI K "NoSuchRow" "row" (WD E) 1) k [some (.ref x), some (.int row), none, none, none] H := fun hb k xf => ⟨fun d nd => bad hb xf d nd⟩
  walk_at "gx"
  refine ifd (fun r0 => ?_) (fun r0 => raise (fun z => r0 z.1) _)
  refine Atr.sl c hs (i := 1) rfl rfl ?_
  show bIf (!decide (row ≤ n)) _ _
  refine ifn (fun r1 => raise (fun z => r1 z.2) _) (fun r1 => ?_)
  have q := good r0 r1
  walk_at "gx"
  refine Atr.sl c hs (i := 0) rfl rfl ?_
  refine for_en (fun i σ H1 => Same H H1 ∧ ∃ (a b : Option V), σ = [some (.ref x), some (.int row), some (.int (rankF row (es.take i) 1)), a, b]) hp ⟨Same.refl _, none, none, rfl⟩ (fun i σ H1 _ z => Same.tup z.1 hp) ?_ ?_
  · rintro i v σ H1 hi ⟨e1, a, b, rfl⟩ T hT
    obtain ⟨y, hy, rfl⟩ := map_get hi
    have e2 : Same H (upd H1 T (.tup [.int (i : Int), .int y])) := e1.trans (same_new hT)
    have hyr := hE.2 y (List.mem_of_getElem? hy)
    have ht : es.take (i + 1) = es.take i ++ [y] := by rw [List.take_succ, hy]; rfl
    have hlen : (es.take i).length = i := by
      obtain ⟨h1, _⟩ := List.getElem?_eq_some_iff.mp hy
      rw [List.length_take]; omega
    have st := rankF_snoc row y (es.take i) 1
    rw [← ht, hlen] at st
    refine ⟨T, _, rfl, SqT.of upd_same, rfl, _, _, rfl, ?_⟩
    refine ⟨_, _, rfl, ?_⟩
    refine ⟨rfl, ?_⟩
    walk_at "gx"
    refine ifd (fun hlt => ?_) (fun hlt => ?_)
    · have hlt' : y < row := hlt
      rw [if_pos hlt'] at st
      walk_at "gx"
      rw [← sgn] at st
      exact ⟨e2, _, _, by rw [st]; rfl⟩
    · have hlt' : ¬ y < row := hlt
      rw [if_neg hlt', Int.add_zero] at st
      exact ⟨e2, _, _, by rw [st]; rfl⟩
  · rintro σ H1 ⟨e1, a, b, rfl⟩
    rw [List.length_map, List.take_length]
    walk_at "gx"
    exact q _ e1
end S
namespace S
open PySem PySem.Spec PyProof.Rows L2
def t_Bitmap_ones (K : Frag) (E : XK) : TS :=
    tRet (dMeth K "Bitmap" (sp_Bitmap_rank K) (EW E) (dVar 0) (tCons (dAt K "size" (dVar 0)) (tNil)))
end S
-- fn: Bitmap.ones
-- law: k11
-- deps: Bm Bitmap_rank
namespace S
open PySem PySem.Spec PyProof.Rows L2
def sp_Bitmap_ones (K : Frag) : Sp := fun vs H Q _ => ∃ (x : Addr) (n : Int) (es : List Int), vs = [.ref x] ∧ Bm K H x n es ∧ n ≤ 2 * 10 ^ 18 ∧ es.length ≤ 50000 ∧ ∀ H', Same H H' → Q (.int (rankF n es 1)) H'
theorem pure_Bitmap_ones {K : Frag} (vs : List V) (H : Hp) (Q : VK) (E : XK) (h : sp_Bitmap_ones K vs H Q E) : t_Bitmap_ones K E { nx := fun _ H' => Q .non H', rt := Q } (start ["self"] vs) H := by
  obtain ⟨x, n, es, rfl, hb, n1, hl, q⟩ := h
  obtain ⟨c, n0, hE, dx, p, hs, hp⟩ := id hb
  refine IsO.of hs ?_
  refine Atr.sl c hs (i := 1) rfl rfl ?_
  exact ⟨x, n, n, es, rfl, hb, n1, hl, fun _ _ => q, fun z => absurd ⟨n0, Int.le_refl _⟩ z⟩
end S
-- deps: Bm Bitmap_ops Bitmap_rank Bitmap_ones
/-! ## bitmaps told by their rows; counts -/
namespace S
open PySem PySem.Spec PyProof.Rows L2
/-- a bitmap whose rows are told by f, at most m ends -/
def Bx (K : Frag) (H : Hp) (x : Addr) (n : Int) (f : Int → Bool) (m : Nat) : Prop := ∃ es, Bm K H x n es ∧ es.length ≤ m ∧ ∀ row, 0 ≤ row → row < n → inB es row = f row
theorem Bx.same {K : Frag} {H H' : Hp} {x : Addr} {n : Int} {f : Int → Bool} {m : Nat} (h : Bx K H x n f m) (e : Same H H') : Bx K H' x n f m := let ⟨es, a, b, c⟩ := h; ⟨es, a.same e, b, c⟩
theorem Bx.slt {K : Frag} {H : Hp} {x : Addr} {n : Int} {f : Int → Bool} {m : Nat} (h : Bx K H x n f m) : ∃ dx vs, SlX.Slt H x (He.ga K "Bitmap") dx vs := let ⟨_, ⟨_, _, _, dx, _, a, _⟩, _⟩ := h; ⟨dx, _, a⟩
section
variable {K : Frag} {H : Hp} {x y : Addr} {n : Int} {f g : Int → Bool} {m1 m2 : Nat} {Q : VK} {E : XK}
theorem spJoin_of {r : Bool → Bool → Bool} (h1 : Bx K H x n f m1) (h2 : Bx K H y n g m2) (l1 : m1 ≤ 50000) (l2 : m2 ≤ 50000) (h0 : r false false = false) (q : ∀ z H', Same H H' → Bx K H' z n (fun row => r (f row) (g row)) (m1 + m2) → Q (.ref z) H') : spJoin K r x y H Q E := by
  obtain ⟨es, b1, a1, c1⟩ := h1
  obtain ⟨fs, b2, a2, c2⟩ := h2
  refine ⟨n, n, es, fs, b1, b2, by omega, by omega, fun _ z H' e _ hz => q z H' e ⟨_, hz, ?_, fun row r0 r1 => ?_⟩, fun z => absurd rfl z⟩
  · have := join_len (r := r) (es := es) (fs := fs); omega
  · rw [join_in b1.2.2.1 b2.2.2.1 h0, c1 row r0 r1, c2 row r0 r1]
theorem isO2 {P : Prop} (h1 : Bx K H x n f m1) (h2 : Bx K H y n g m2) (q : P) : IsO K H "Bitmap" x (IsO K H "Bitmap" y P) := by
  obtain ⟨dx, vs, a⟩ := h1.slt
  obtain ⟨dy, ws, b⟩ := h2.slt
  exact .of a (.of b q)
theorem bx_or (h1 : Bx K H x n f m1) (h2 : Bx K H y n g m2) (l1 : m1 ≤ 50000) (l2 : m2 ≤ 50000) (q : ∀ z H', Same H H' → Bx K H' z n (fun row => rOr (f row) (g row)) (m1 + m2) → Q (.ref z) H') : IsO K H "Bitmap" x (IsO K H "Bitmap" y (sp_Bitmapdd_ordd K [.ref x, .ref y] H Q E)) := isO2 h1 h2 ⟨x, y, rfl, spJoin_of h1 h2 l1 l2 rfl q⟩
end
/-! ### counts -/
theorem add4 (a b c d : Int) : (a + b) + (c + d) = (a + c) + (b + d) := by omega
def cntF (f : Int → Bool) : Nat → Int
  | 0 => 0
  | k + 1 => cntF f k + (if f k then 1 else 0)
def altF (row : Int) : List Int → Int → Int
  | [], _ => 0
  | e :: r, s => (if e ≤ row then s else 0) + altF row r (-s)
theorem rank_step (row : Int) : ∀ (es : List Int) (s : Int), rankF (row + 1) es s = rankF row es s + altF row es s
  | [], _ => rfl
  | e :: r, s => by
    show (if e < row + 1 then (row + 1 - e) * s else 0) + rankF (row + 1) r (-s) = ((if e < row then (row - e) * s else 0) + rankF row r (-s)) + ((if e ≤ row then s else 0) + altF row r (-s))
    rw [rank_step row r (-s)]
    have k : (if e < row + 1 then (row + 1 - e) * s else 0) = (if e < row then (row - e) * s else 0) + (if e ≤ row then s else 0) := by
      by_cases h : e < row
      · rw [if_pos (by omega), if_pos h, if_pos (by omega), show row + 1 - e = (row - e) + 1 by omega, Int.add_mul, Int.one_mul]
      · by_cases h2 : e = row
        · rw [if_pos (by omega), if_neg h, if_pos (by omega), h2, show row + 1 - row = 1 by omega, Int.one_mul, Int.zero_add]
        · rw [if_neg (by omega), if_neg h, if_neg (by omega)]; rfl
    rw [k]; omega
theorem alt_in (row : Int) : ∀ (es : List Int) (s : Int), es.Pairwise (· < ·) → altF row es s = if inB es row then s else 0
  | [], s, _ => rfl
  | e :: r, s, h => by
    obtain ⟨h1, h2⟩ := List.pairwise_cons.mp h
    show (if e ≤ row then s else 0) + altF row r (-s) = _
    rw [alt_in row r (-s) h2, inB_cons]
    by_cases he : e ≤ row
    · rw [if_pos he, if_pos he]
      cases inB r row <;> simp <;> omega
    · rw [if_neg he, if_neg he, inB_before fun w hw => by have := h1 w hw; omega]; rfl
theorem rank_zero : ∀ (es : List Int) (s : Int), (∀ x ∈ es, 0 ≤ x) → rankF 0 es s = 0
  | [], _, _ => rfl
  | e :: r, s, h => by
    show (if e < 0 then (0 - e) * s else 0) + rankF 0 r (-s) = 0
    rw [if_neg (by have := h e (List.mem_cons_self ..); omega), rank_zero r (-s) fun x hx => h x (List.mem_cons_of_mem _ hx)]; rfl
theorem rank_cnt {n : Int} {es : List Int} (h : Ends n es) : ∀ k : Nat, rankF (k : Int) es 1 = cntF (inB es) k
  | 0 => rank_zero es 1 fun x hx => (h.2 x hx).1
  | k + 1 => by
    show rankF ((k : Int) + 1) es 1 = cntF (inB es) k + _
    rw [rank_step, rank_cnt h k, alt_in _ _ _ h.1]
theorem cnt_congr {f g : Int → Bool} : ∀ k : Nat, (∀ j : Nat, j < k → f j = g j) → cntF f k = cntF g k
  | 0, _ => rfl
  | k + 1, h => by
    show cntF f k + _ = cntF g k + _
    rw [cnt_congr k fun j hj => h j (by omega), h k (by omega)]
theorem cnt_two (f g : Int → Bool) : ∀ k : Nat, cntF f k + cntF g k = cntF (fun r => rOr (f r) (g r)) k + cntF (fun r => rAnd (f r) (g r)) k
  | 0 => rfl
  | k + 1 => by
    have ih := cnt_two f g k
    have e : (if f k then (1 : Int) else 0) + (if g k then 1 else 0) = (if rOr (f k) (g k) then 1 else 0) + (if rAnd (f k) (g k) then 1 else 0) := by cases f k <;> cases g k <;> rfl
    exact (add4 _ _ _ _).trans ((congr (congrArg (· + ·) ih) e).trans (add4 _ _ _ _))
theorem cnt_none {f : Int → Bool} (h : ∀ r, f r = false) : ∀ k : Nat, cntF f k = 0
  | 0 => rfl
  | k + 1 => by
    show cntF f k + _ = 0
    rw [cnt_none h k, h]; simp
section
variable {K : Frag} {H : Hp} {x y : Addr} {n : Int} {f g : Int → Bool} {m1 m2 : Nat} {Q : VK} {E : XK}
theorem bx_ones (h1 : Bx K H x n f m1) (l1 : m1 ≤ 50000) (hn : n ≤ 2 * 10 ^ 18) (q : ∀ H', Same H H' → Q (.int (cntF f n.toNat)) H') : IsO K H "Bitmap" x (sp_Bitmap_ones K [.ref x] H Q E) := by
  obtain ⟨dx, vs, a⟩ := h1.slt
  obtain ⟨es, b1, a1, c1⟩ := h1
  have n0 := b1.2.1
  refine .of a ⟨x, n, es, rfl, b1, hn, by omega, fun H' e => ?_⟩
  have z := rank_cnt b1.2.2.1 n.toNat
  rw [Int.toNat_of_nonneg n0, cnt_congr n.toNat fun j hj => c1 j (by omega) (by omega)] at z
  rw [z]
  exact q H' e
end
end S
-- deps: Bx Bs Cx Cmp
/-! ## sums over rows -/
namespace S
open PySem PySem.Spec PyProof.Rows L2
theorem cnt_bd (f : Int → Bool) : ∀ k : Nat, 0 ≤ cntF f k ∧ cntF f k ≤ k
  | 0 => ⟨Int.le_refl _, Int.le_refl _⟩
  | k + 1 => by
    have h := cnt_bd f k
    show 0 ≤ cntF f k + (if f k = true then 1 else 0) ∧ cntF f k + (if f k = true then 1 else 0) ≤ ((k + 1 : Nat) : Int)
    split <;> omega
/-! ### counts with weights -/
/-! ### stretches between rows -/
/-! ### where bits and values step -/
end S
-- deps: Bx Sm0 Sl
namespace S
/-! ## the first rows by their numbers: chosen, undecided, still wanted, places read -/
structure FS where
  c : Int → Bool
  u : Int → Bool
  k : Int
  m : Nat
def fsR (n : Nat) (bt : Nat → Int → Bool) : Nat → (Int → Bool) → (Int → Bool) → Int → Nat → FS
  | 0, c, u, k, m => ⟨c, u, k, m⟩
  | p + 1, c, u, k, m =>
    if k < cntF (fun r => rAnd (u r) (bt p r)) n then fsR n bt p c (fun r => rAnd (u r) (bt p r)) k (m + 1)
    else if k - cntF (fun r => rAnd (u r) (bt p r)) n = 0 then ⟨fun r => rOr (c r) (rAnd (u r) (bt p r)), fun r => rLess (u r) (rAnd (u r) (bt p r)), 0, m + 1⟩
    else fsR n bt p (fun r => rOr (c r) (rAnd (u r) (bt p r))) (fun r => rLess (u r) (rAnd (u r) (bt p r))) (k - cntF (fun r => rAnd (u r) (bt p r)) n) (m + 1)
/-- alike at the places from p on -/
def Eqv (bt : Nat → Int → Bool) (w p : Nat) (r r' : Int) : Prop := ∀ q, p ≤ q → q < w → bt q r = bt q r'
/-- r is ahead of r' at the places from p on -/
def Ahd (bt : Nat → Int → Bool) (w p : Nat) (r r' : Int) : Prop := ∃ q, p ≤ q ∧ q < w ∧ bt q r = true ∧ bt q r' = false ∧ Eqv bt w (q + 1) r r'
theorem Ahd.mono {bt : Nat → Int → Bool} {w p p' : Nat} {r r' : Int} (h : Ahd bt w p r r') (l : p' ≤ p) : Ahd bt w p' r r' := by
  obtain ⟨q, h1, h2⟩ := h
  exact ⟨q, Nat.le_trans l h1, h2⟩
structure FI (bt : Nat → Int → Bool) (w p : Nat) (U0 c u : Int → Bool) : Prop where
  sub : ∀ r, c r = true ∨ u r = true → U0 r = true
  dj : ∀ r, c r = true → u r = false
  eq : ∀ r r', u r = true → u r' = true → Eqv bt w p r r'
  cu : ∀ r r', c r = true → u r' = true → Ahd bt w p r r'
  cx : ∀ r r', c r = true → U0 r' = true → c r' = false → u r' = false → Ahd bt w p r r'
  ux : ∀ r r', u r = true → U0 r' = true → c r' = false → u r' = false → Ahd bt w p r r'
theorem rAnd_t {a b : Bool} : rAnd a b = true ↔ a = true ∧ b = true := by cases a <;> cases b <;> simp [rAnd]
theorem rAnd_f {a b : Bool} : rAnd a b = false ↔ a = false ∨ b = false := by cases a <;> cases b <;> simp [rAnd]
theorem rOr_t {a b : Bool} : rOr a b = true ↔ a = true ∨ b = true := by cases a <;> cases b <;> simp [rOr]
theorem rOr_f {a b : Bool} : rOr a b = false ↔ a = false ∧ b = false := by cases a <;> cases b <;> simp [rOr]
theorem rLess_t {a b : Bool} : rLess a (rAnd a b) = true ↔ a = true ∧ b = false := by cases a <;> cases b <;> simp [rLess, rAnd]
theorem rLess_f {a b : Bool} : rLess a (rAnd a b) = false ↔ a = false ∨ b = true := by cases a <;> cases b <;> simp [rLess, rAnd]
section
variable {bt : Nat → Int → Bool} {w p : Nat} {U0 c u : Int → Bool}
theorem FI.one (h : FI bt w (p + 1) U0 c u) (hp : p < w) : ∀ r r', u r = true → u r' = true → bt p r = bt p r' → Eqv bt w p r r' := fun r r' h1 h2 e q h3 h4 => by
  by_cases g : q = p
  · rw [g]; exact e
  · exact h.eq r r' h1 h2 q (by omega) h4
theorem FI.two (h : FI bt w (p + 1) U0 c u) (hp : p < w) : ∀ r r', u r = true → u r' = true → bt p r = true → bt p r' = false → Ahd bt w p r r' := fun r r' h1 h2 e1 e2 => ⟨p, Nat.le_refl _, hp, e1, e2, fun q h3 h4 => h.eq r r' h1 h2 q (by omega) h4⟩
theorem FI.stepA (h : FI bt w (p + 1) U0 c u) (hp : p < w) : FI bt w p U0 c (fun r => rAnd (u r) (bt p r)) := by
  refine ⟨fun r z => ?_, fun r z => ?_, fun r r' h1 h2 => ?_, fun r r' h1 h2 => ?_, fun r r' h1 h2 h3 h4 => ?_, fun r r' h1 h2 h3 h4 => ?_⟩
  · rcases z with z | z
    · exact h.sub r (.inl z)
    · exact h.sub r (.inr (rAnd_t.mp z).1)
  · exact rAnd_f.mpr (.inl (h.dj r z))
  · have a1 := rAnd_t.mp h1
    have a2 := rAnd_t.mp h2
    exact h.one hp r r' a1.1 a2.1 (a1.2.trans a2.2.symm)
  · exact (h.cu r r' h1 (rAnd_t.mp h2).1).mono (Nat.le_succ _)
  · cases hu : u r' with
    | true => exact (h.cu r r' h1 hu).mono (Nat.le_succ _)
    | false => exact (h.cx r r' h1 h2 h3 hu).mono (Nat.le_succ _)
  · have a1 := rAnd_t.mp h1
    cases hu : u r' with
    | true =>
      rcases rAnd_f.mp h4 with z | z
      · rw [hu] at z; cases z
      · exact h.two hp r r' a1.1 hu a1.2 z
    | false => exact (h.ux r r' a1.1 h2 h3 hu).mono (Nat.le_succ _)
theorem FI.stepB (h : FI bt w (p + 1) U0 c u) (hp : p < w) : FI bt w p U0 (fun r => rOr (c r) (rAnd (u r) (bt p r))) (fun r => rLess (u r) (rAnd (u r) (bt p r))) := by
  refine ⟨fun r z => ?_, fun r z => ?_, fun r r' h1 h2 => ?_, fun r r' h1 h2 => ?_, fun r r' h1 h2 h3 h4 => ?_, fun r r' h1 h2 h3 h4 => ?_⟩
  · rcases z with z | z
    · rcases rOr_t.mp z with z | z
      · exact h.sub r (.inl z)
      · exact h.sub r (.inr (rAnd_t.mp z).1)
    · exact h.sub r (.inr (rLess_t.mp z).1)
  · rcases rOr_t.mp z with z | z
    · exact rLess_f.mpr (.inl (h.dj r z))
    · exact rLess_f.mpr (.inr (rAnd_t.mp z).2)
  · have a1 := rLess_t.mp h1
    have a2 := rLess_t.mp h2
    exact h.one hp r r' a1.1 a2.1 (a1.2.trans a2.2.symm)
  · have a2 := rLess_t.mp h2
    rcases rOr_t.mp h1 with z | z
    · exact (h.cu r r' z a2.1).mono (Nat.le_succ _)
    · have a1 := rAnd_t.mp z
      exact h.two hp r r' a1.1 a2.1 a1.2 a2.2
  · obtain ⟨c1, c2⟩ := rOr_f.mp h3
    have hu : u r' = false := by
      cases hu : u r' with
      | false => rfl
      | true =>
        rcases rAnd_f.mp c2 with z | z
        · rw [hu] at z; cases z
        · rcases rLess_f.mp h4 with y | y
          · rw [hu] at y; cases y
          · rw [z] at y; cases y
    rcases rOr_t.mp h1 with z | z
    · exact (h.cx r r' z h2 c1 hu).mono (Nat.le_succ _)
    · exact (h.ux r r' (rAnd_t.mp z).1 h2 c1 hu).mono (Nat.le_succ _)
  · obtain ⟨c1, c2⟩ := rOr_f.mp h3
    have hu : u r' = false := by
      cases hu : u r' with
      | false => rfl
      | true =>
        rcases rAnd_f.mp c2 with z | z
        · rw [hu] at z; cases z
        · rcases rLess_f.mp h4 with y | y
          · rw [hu] at y; cases y
          · rw [z] at y; cases y
    exact (h.ux r r' (rLess_t.mp h1).1 h2 c1 hu).mono (Nat.le_succ _)
theorem cnt_or {f g : Int → Bool} (n : Nat) (h : ∀ r, f r = true → g r = false) : cntF (fun r => rOr (f r) (g r)) n = cntF f n + cntF g n := by
  have e := cnt_two f g n
  have z : cntF (fun r => rAnd (f r) (g r)) n = 0 := cnt_none (fun r => by
    cases hf : f r with
    | false => rfl
    | true => rw [h r hf]; rfl) n
  rw [z] at e
  omega
theorem cnt_cut (u b : Int → Bool) (n : Nat) : cntF (fun r => rLess (u r) (rAnd (u r) (b r))) n = cntF u n - cntF (fun r => rAnd (u r) (b r)) n := by
  have e := cnt_or (f := fun r => rLess (u r) (rAnd (u r) (b r))) (g := fun r => rAnd (u r) (b r)) n (fun r h => rAnd_f.mpr (.inr (rLess_t.mp h).2))
  have : (fun r => rOr (rLess (u r) (rAnd (u r) (b r))) (rAnd (u r) (b r))) = u := by
    funext r
    cases u r <;> cases b r <;> rfl
  rw [this] at e
  omega
theorem fsR_ok {n : Nat} {K : Int} : ∀ {p : Nat} {c u : Int → Bool} {k : Int} {m : Nat}, p ≤ w → FI bt w p U0 c u → cntF c n + k = K → 0 < k → k < cntF u n →
    ∃ p', p' ≤ p ∧ FI bt w p' U0 (fsR n bt p c u k m).c (fsR n bt p c u k m).u ∧ cntF (fsR n bt p c u k m).c n + (fsR n bt p c u k m).k = K ∧ 0 ≤ (fsR n bt p c u k m).k ∧ ((fsR n bt p c u k m).k = 0 ∨ p' = 0) ∧ (fsR n bt p c u k m).k < cntF (fsR n bt p c u k m).u n ∧ (fsR n bt p c u k m).m = m + (p - p')
  | 0, c, u, k, m, _, h, e, k0, k1 => ⟨0, Nat.le_refl _, h, e, Int.le_of_lt k0, .inr rfl, k1, rfl⟩
  | p + 1, c, u, k, m, hp, h, e, k0, k1 => by
    have hd : ∀ r, c r = true → rAnd (u r) (bt p r) = false := fun r hr => rAnd_f.mpr (.inl (h.dj r hr))
    have hc := cnt_or n hd
    have hl := cnt_cut u (bt p) n
    unfold fsR
    by_cases h1 : k < cntF (fun r => rAnd (u r) (bt p r)) n
    · rw [if_pos h1]
      obtain ⟨p', a1, a2, a3, a4, a5, a6, a7⟩ := fsR_ok (n := n) (K := K) (m := m + 1) (by omega) (h.stepA (by omega)) e k0 h1
      exact ⟨p', by omega, a2, a3, a4, a5, a6, by rw [a7]; omega⟩
    · rw [if_neg h1]
      by_cases h2 : k - cntF (fun r => rAnd (u r) (bt p r)) n = 0
      · rw [if_pos h2]
        refine ⟨p, by omega, h.stepB (by omega), ?_, Int.le_refl _, .inl rfl, ?_, by show m + 1 = m + (p + 1 - p); omega⟩
        · show cntF (fun r => rOr (c r) (rAnd (u r) (bt p r))) n + 0 = K
          rw [hc]; omega
        · show 0 < cntF (fun r => rLess (u r) (rAnd (u r) (bt p r))) n
          rw [hl]; omega
      · rw [if_neg h2]
        obtain ⟨p', a1, a2, a3, a4, a5, a6, a7⟩ := fsR_ok (n := n) (K := K) (m := m + 1) (by omega) (h.stepB (by omega)) (k := k - cntF (fun r => rAnd (u r) (bt p r)) n) (by rw [hc]; omega) (by omega) (by rw [hl]; omega)
        exact ⟨p', by omega, a2, a3, a4, a5, a6, by rw [a7]; omega⟩
end
/-- the first k of u -/
def fstK (u : Int → Bool) (k : Int) (r : Int) : Bool := u r && decide (cntF u r.toNat < k)
theorem cnt_fstK (u : Int → Bool) {k : Int} (k0 : 0 ≤ k) : ∀ n : Nat, cntF (fstK u k) n = min k (cntF u n)
  | 0 => by show 0 = min k 0; omega
  | n + 1 => by
    have ih := cnt_fstK u k0 n
    have hb := cnt_bd u n
    show cntF (fstK u k) n + (if fstK u k (n : Int) = true then 1 else 0) = min k (cntF u n + (if u (n : Int) = true then 1 else 0))
    rw [ih]
    unfold fstK
    rw [Int.toNat_natCast]
    cases hu : u (n : Int) with
    | false => simp
    | true =>
      by_cases h : cntF u n < k
      · rw [decide_eq_true h]; simp; omega
      · rw [decide_eq_false h]; simp; omega
theorem cnt_mono3 (u : Int → Bool) {a b : Nat} (h : a ≤ b) : cntF u a ≤ cntF u b := by
  obtain ⟨d, rfl⟩ := Nat.exists_eq_add_of_le h
  clear h
  induction d with
  | zero => exact Int.le_refl _
  | succ d ih =>
    show cntF u a ≤ cntF u (a + d) + (if u ((a + d : Nat) : Int) = true then 1 else 0)
    split <;> omega
/-- chosen rows, number of slices read -/
def frE (n : Int) (fR pr : Int → Bool) (bt : Nat → Int → Bool) (w : Nat) (k : Int) : (Int → Bool) × Nat :=
  if k = 0 ∨ cntF fR n.toNat = 0 then (fun _ => false, 0)
  else if cntF (fun r => rAnd (fR r) (pr r)) n.toNat ≤ k then (fun r => rAnd (fR r) (pr r), 1)
  else (fun r => rOr ((fsR n.toNat bt w (fun _ => false) (fun r => rAnd (fR r) (pr r)) k 0).c r) (fstK (fsR n.toNat bt w (fun _ => false) (fun r => rAnd (fR r) (pr r)) k 0).u (fsR n.toNat bt w (fun _ => false) (fun r => rAnd (fR r) (pr r)) k 0).k r), 1 + (fsR n.toNat bt w (fun _ => false) (fun r => rAnd (fR r) (pr r)) k 0).m)
/-- r is chosen ahead of r' -/
def Bef (bt : Nat → Int → Bool) (w : Nat) (r r' : Int) : Prop := Ahd bt w 0 r r' ∨ (Eqv bt w 0 r r' ∧ r ≤ r')
theorem frE_sub {n : Int} {fR pr : Int → Bool} {bt : Nat → Int → Bool} {w : Nat} {k : Int} (k0 : 0 ≤ k) :
    (∀ r, (frE n fR pr bt w k).1 r = true → rAnd (fR r) (pr r) = true) ∧ cntF (frE n fR pr bt w k).1 n.toNat = min k (cntF (fun r => rAnd (fR r) (pr r)) n.toNat) ∧ (frE n fR pr bt w k).2 ≤ 1 + w ∧
    (∀ r r', 0 ≤ r → r < n → 0 ≤ r' → r' < n → (frE n fR pr bt w k).1 r = true → rAnd (fR r') (pr r') = true → (frE n fR pr bt w k).1 r' = false → Bef bt w r r') := by
  unfold frE
  have hU := cnt_bd (fun r => rAnd (fR r) (pr r)) n.toNat
  by_cases h1 : k = 0 ∨ cntF fR n.toNat = 0
  · rw [if_pos h1]
    refine ⟨fun r z => (by cases z), ?_, by omega, fun _ _ _ _ _ _ z => (by cases z)⟩
    have e0 : cntF (fun _ => false) n.toNat = 0 := cnt_none (fun _ => rfl) _
    show cntF (fun _ => false) n.toNat = _
    rw [e0]
    rcases h1 with h | h
    · omega
    · have e := cnt_two fR (fun r => rAnd (fR r) (pr r)) n.toNat
      have e1 : (fun r => rAnd (fR r) (rAnd (fR r) (pr r))) = (fun r => rAnd (fR r) (pr r)) := by funext r; cases fR r <;> cases pr r <;> rfl
      have e2 : (fun r => rOr (fR r) (rAnd (fR r) (pr r))) = fR := by funext r; cases fR r <;> cases pr r <;> rfl
      have le : cntF (fun r => rAnd (fR r) (pr r)) n.toNat ≤ cntF fR n.toNat := by
        have : ∀ m : Nat, cntF (fun r => rAnd (fR r) (pr r)) m ≤ cntF fR m := fun m => by
          induction m with
          | zero => exact Int.le_refl _
          | succ m ih =>
            have h : (if rAnd (fR m) (pr m) = true then (1 : Int) else 0) ≤ (if fR m = true then 1 else 0) := by cases fR (m : Int) <;> cases pr (m : Int) <;> decide
            show cntF _ m + (if rAnd (fR m) (pr m) = true then 1 else 0) ≤ cntF fR m + (if fR m = true then 1 else 0)
            exact Int.add_le_add ih h
        exact this _
      omega
  · rw [if_neg h1]
    by_cases h2 : cntF (fun r => rAnd (fR r) (pr r)) n.toNat ≤ k
    · rw [if_pos h2]
      refine ⟨fun r z => z, ?_, by show 1 ≤ 1 + w; omega, fun r r' _ _ _ _ _ z1 z2 => ?_⟩
      · show cntF (fun r => rAnd (fR r) (pr r)) n.toNat = _; omega
      · have z2 : rAnd (fR r') (pr r') = false := z2
        rw [z1] at z2; cases z2
    · rw [if_neg h2]
      have h0 : cntF (fun _ => false) n.toNat = 0 := cnt_none (fun _ => rfl) _
      have I0 : FI bt w w (fun r => rAnd (fR r) (pr r)) (fun _ => false) (fun r => rAnd (fR r) (pr r)) := ⟨fun r z => by rcases z with z | z; cases z; exact z, fun r z => (by cases z), fun r r' _ _ q q1 q2 => by omega, fun r r' z => (by cases z), fun r r' z => (by cases z), fun r r' _ z1 _ z2 => by
        have z2 : rAnd (fR r') (pr r') = false := z2
        rw [z1] at z2; cases z2⟩
      obtain ⟨p', a1, a2, a3, a4, a5, a6, a7⟩ := fsR_ok (n := n.toNat) (K := k) (m := 0) (Nat.le_refl w) I0 (by rw [h0]; omega) (by omega) (by omega : k < cntF (fun r => rAnd (fR r) (pr r)) n.toNat)
      generalize fsR n.toNat bt w (fun _ => false) (fun r => rAnd (fR r) (pr r)) k 0 = s at *
      have hcf := cnt_fstK s.u a4 n.toNat
      refine ⟨fun r z => ?_, ?_, by show 1 + s.m ≤ 1 + w; omega, fun r r' r0 r1 r0' r1' z1 z2 z3 => ?_⟩
      · rcases rOr_t.mp z with z | z
        · exact a2.sub r (.inl z)
        · exact a2.sub r (.inr (Bool.and_eq_true_iff.mp z).1)
      · show cntF (fun r => rOr (s.c r) (fstK s.u s.k r)) n.toNat = _
        rw [cnt_or n.toNat fun r hr => by unfold fstK; rw [a2.dj r hr]; rfl, hcf]
        omega
      · obtain ⟨c1, c2⟩ := rOr_f.mp z3
        have late : s.u r' = true → s.k ≤ cntF s.u r'.toNat := fun hu => by
          unfold fstK at c2
          rw [hu, Bool.true_and] at c2
          have := of_decide_eq_false c2
          omega
        rcases rOr_t.mp z1 with z | z
        · cases hu : s.u r' with
          | true => exact .inl ((a2.cu r r' z hu).mono (Nat.zero_le _))
          | false => exact .inl ((a2.cx r r' z z2 c1 hu).mono (Nat.zero_le _))
        · unfold fstK at z
          obtain ⟨u1, u2⟩ := Bool.and_eq_true_iff.mp z
          have u2 := of_decide_eq_true u2
          have cb := cnt_bd s.u r.toNat
          have p0 : p' = 0 := by rcases a5 with h | h; omega; exact h
          subst p0
          cases hu : s.u r' with
          | true =>
            have l2 := late hu
            refine .inr ⟨a2.eq r r' u1 hu, ?_⟩
            refine Int.not_lt.mp fun hlt => ?_
            have := cnt_mono3 s.u (a := r'.toNat) (b := r.toNat) (by omega)
            omega
          | false => exact .inl (a2.ux r r' u1 z2 c1 hu)
/-! ### ahead by bits, ahead by numbers -/
theorem twos_lex : ∀ (xs ys : List Bool) (q : Nat), xs.length = ys.length → q < xs.length → (∀ j, q < j → xs[j]? = ys[j]?) → xs[q]? = some (decide (q + 1 = xs.length)) → ys[q]? = some (!decide (q + 1 = xs.length)) → twos xs < twos ys
  | [], _, q, _, h, _, _, _ => absurd h (Nat.not_lt_zero _)
  | _ :: _, [], _, h, _, _, _, _ => by cases h
  | [x], [y], q, _, h, _, h1, h2 => by
    have : q = 0 := by simp at h; omega
    subst this
    simp at h1 h2
    rw [h1, h2]; decide
  | [_], _ :: _ :: _, _, h, _, _, _, _ => by simp at h
  | _ :: _ :: _, [_], _, h, _, _, _, _ => by simp at h
  | x :: a :: xs, y :: b :: ys, 0, hl, h, he, h1, h2 => by
    have e : a :: xs = b :: ys := List.ext_getElem? fun j => he (j + 1) (by omega)
    rw [twos_cons x (by simp), twos_cons y (by simp), e]
    have d : decide (0 + 1 = (x :: a :: xs).length) = false := by simp
    rw [d] at h1 h2
    simp at h1 h2
    rw [h1, h2]
    have e1 : b2n false = 0 := rfl
    have e2 : b2n true = 1 := rfl
    rw [e1, e2]; omega
  | x :: a :: xs, y :: b :: ys, q + 1, hl, h, he, h1, h2 => by
    have ih := twos_lex (a :: xs) (b :: ys) q (by simpa using hl) (by simpa using h) (fun j hj => he (j + 1) (by omega))
      (by simpa using h1) (by simpa using h2)
    rw [twos_cons x (by simp), twos_cons y (by simp)]
    have bx : b2n x ≤ 1 := by cases x <;> decide
    have by_ : 0 ≤ b2n y := by cases y <;> decide
    omega
/-- the bit, turned so that true is ahead -/
def btF (bits : Nat → Int → Bool) (w : Nat) (top : Bool) (p : Nat) (r : Int) : Bool := if (decide (p + 1 = w) == top) = true then !(bits p r) else bits p r
theorem btF_eqv {bits : Nat → Int → Bool} {w : Nat} {top : Bool} {r r' : Int} (h : Eqv (btF bits w top) w 0 r r') : ((List.range w).map fun i => bits i r) = (List.range w).map fun i => bits i r' := by
  refine List.map_congr_left fun i hi => ?_
  have := h i (Nat.zero_le _) (List.mem_range.mp hi)
  unfold btF at this
  split at this
  · cases h1 : bits i r <;> cases h2 : bits i r' <;> simp_all
  · exact this
theorem btF_ahd {bits : Nat → Int → Bool} {w : Nat} {top : Bool} {r r' : Int} (h : Ahd (btF bits w top) w 0 r r') : if top = true then twos ((List.range w).map fun i => bits i r') < twos ((List.range w).map fun i => bits i r) else twos ((List.range w).map fun i => bits i r) < twos ((List.range w).map fun i => bits i r') := by
  obtain ⟨q, _, hq, h1, h2, h3⟩ := h
  have e : ∀ j, q < j → ((List.range w).map fun i => bits i r)[j]? = ((List.range w).map fun i => bits i r')[j]? := fun j hj => by
    rw [List.getElem?_map, List.getElem?_map]
    by_cases hw : j < w
    · rw [List.getElem?_range hw]
      show some _ = some _
      congr 1
      have := h3 j (by omega) hw
      unfold btF at this
      split at this
      · cases g1 : bits j r <;> cases g2 : bits j r' <;> simp_all
      · exact this
    · rw [List.getElem?_eq_none (by simp; omega)]; rfl
  have g : ∀ s : Int, ((List.range w).map fun i => bits i s)[q]? = some (bits q s) := fun s => by rw [List.getElem?_map, List.getElem?_range hq]; rfl
  have l : ∀ s : Int, ((List.range w).map fun i => bits i s).length = w := fun s => by simp
  unfold btF at h1 h2
  cases top with
  | false =>
    rw [if_neg Bool.false_ne_true]
    refine twos_lex _ _ q (by rw [l, l]) (by rw [l]; exact hq) e ?_ ?_
    · rw [g, l]
      cases hd : decide (q + 1 = w) <;> simp_all
    · rw [g, l]
      cases hd : decide (q + 1 = w) <;> simp_all
  | true =>
    rw [if_pos rfl]
    refine twos_lex _ _ q (by rw [l, l]) (by rw [l]; exact hq) (fun j hj => (e j hj).symm) ?_ ?_
    · rw [g, l]
      cases hd : decide (q + 1 = w) <;> simp_all
    · rw [g, l]
      cases hd : decide (q + 1 = w) <;> simp_all
end S
-- deps: Fst
namespace S
/-! ## what decides the first rows: the slices read, other slices behind them -/
theorem perm_sorted72 : ∀ {as bs : List Int}, as.Perm bs → as.Pairwise (· ≤ ·) → bs.Pairwise (· ≤ ·) → as = bs
  | [], bs, h, _, _ => h.nil_eq
  | a :: as, [], h, _, _ => by have := h.length_eq; rw [List.length_cons, List.length_nil] at this; omega
  | a :: as, b :: bs, h, ha, hb => by
    have h1 : a ∈ b :: bs := h.mem_iff.mp (List.mem_cons_self ..)
    have h2 : b ∈ a :: as := h.mem_iff.mpr (List.mem_cons_self ..)
    have e : a = b := by
      rcases List.mem_cons.mp h1 with h1 | h1
      · exact h1
      · rcases List.mem_cons.mp h2 with h2 | h2
        · exact h2.symm
        · have := (List.pairwise_cons.mp ha).1 b h2
          have := (List.pairwise_cons.mp hb).1 a h1
          omega
    subst e
    rw [perm_sorted72 (List.perm_cons a |>.mp h) (List.pairwise_cons.mp ha).2 (List.pairwise_cons.mp hb).2]
theorem cnt_pos72 {f : Int → Bool} : ∀ {n : Nat}, 0 < cntF f n → ∃ j : Nat, j < n ∧ f j = true
  | 0, h => absurd h (Int.lt_irrefl 0)
  | n + 1, h => by
    by_cases hf : f (n : Int) = true
    · exact ⟨n, Nat.lt_succ_self n, hf⟩
    · have h : 0 < cntF f n + (if f (n : Int) = true then 1 else 0) := h
      rw [if_neg hf, Int.add_zero] at h
      obtain ⟨j, h1, h2⟩ := cnt_pos72 h
      exact ⟨j, Nat.lt_succ_of_lt h1, h2⟩
theorem fsR_le {n : Nat} {bt : Nat → Int → Bool} : ∀ {p : Nat} {c u : Int → Bool} {k : Int} {m : Nat}, m ≤ (fsR n bt p c u k m).m ∧ (fsR n bt p c u k m).m ≤ m + p
  | 0, _, _, _, _ => ⟨Nat.le_refl _, Nat.le_refl _⟩
  | p + 1, c, u, k, m => by
    unfold fsR
    split
    · have := fsR_le (n := n) (bt := bt) (p := p) (c := c) (u := fun r => rAnd (u r) (bt p r)) (k := k) (m := m + 1); omega
    · split
      · constructor
        · show m ≤ m + 1; omega
        · show m + 1 ≤ m + (p + 1); omega
      · have := fsR_le (n := n) (bt := bt) (p := p) (c := fun r => rOr (c r) (rAnd (u r) (bt p r))) (u := fun r => rLess (u r) (rAnd (u r) (bt p r))) (k := k - cntF (fun r => rAnd (u r) (bt p r)) n) (m := m + 1); omega
theorem fsR_s {n : Nat} {bt : Nat → Int → Bool} {p : Nat} {c u : Int → Bool} {k : Int} {m : Nat} : m + 1 ≤ (fsR n bt (p + 1) c u k m).m := by
  unfold fsR
  split
  · exact fsR_le.1
  · split
    · exact Nat.le_refl _
    · exact fsR_le.1
theorem fsR_congr {n : Nat} {bt bt' : Nat → Int → Bool} {p0 : Nat} : ∀ {p : Nat} {c u : Int → Bool} {k : Int} {m : Nat}, p0 ≤ p → (∀ q, p0 ≤ q → q < p → ∀ r, u r = true → bt' q r = bt q r) → (fsR n bt p c u k m).m ≤ m + (p - p0) → fsR n bt' p c u k m = fsR n bt p c u k m
  | 0, _, _, _, _, _, _, _ => rfl
  | p + 1, c, u, k, m, hp, h, hm => by
    by_cases e : p + 1 = p0
    · have := fsR_s (n := n) (bt := bt) (p := p) (c := c) (u := u) (k := k) (m := m)
      omega
    have hp2 : p0 ≤ p := by omega
    have eb : (fun r => rAnd (u r) (bt' p r)) = fun r => rAnd (u r) (bt p r) := by
      funext r
      cases hu : u r with
      | false => rfl
      | true => rw [h p hp2 (by omega) r hu]
    have eb2 : ∀ r, rAnd (u r) (bt' p r) = rAnd (u r) (bt p r) := fun r => congrFun eb r
    have key1 : m + 1 + (p - p0) = m + (p + 1 - p0) := by omega
    unfold fsR at hm ⊢
    simp only [eb2]
    split
    · rename_i h1
      rw [if_pos h1] at hm
      exact fsR_congr hp2 (fun q q1 q2 r hr => h q q1 (by omega) r (rAnd_t.mp hr).1) (by omega)
    · rename_i h1
      rw [if_neg h1] at hm
      split
      · rfl
      · rename_i h2
        rw [if_neg h2] at hm
        exact fsR_congr hp2 (fun q q1 q2 r hr => h q q1 (by omega) r (rLess_t.mp hr).1) (by omega)
/-- what stands after j places, if the walk goes on -/
theorem fsR_mid {bt : Nat → Int → Bool} {w : Nat} {U0 : Int → Bool} {n : Nat} {K : Int} : ∀ {p : Nat} {c u : Int → Bool} {k : Int} {m : Nat} (j : Nat), p ≤ w → FI bt w p U0 c u → cntF c n + k = K → 0 < k → k < cntF u n → m + j < (fsR n bt p c u k m).m →
    ∃ (c' u' : Int → Bool) (k' : Int), j < p ∧ FI bt w (p - j) U0 c' u' ∧ cntF c' n + k' = K ∧ 0 < k' ∧ k' < cntF u' n
  | p, c, u, k, m, 0, _, h, e, k0, k1, hm => ⟨c, u, k, by
      have := (fsR_le (n := n) (bt := bt) (p := p) (c := c) (u := u) (k := k) (m := m)).2
      omega, h, e, k0, k1⟩
  | 0, c, u, k, m, j + 1, _, h, e, k0, k1, hm => by
    have := (fsR_le (n := n) (bt := bt) (p := 0) (c := c) (u := u) (k := k) (m := m)).2
    omega
  | p + 1, c, u, k, m, j + 1, hp, h, e, k0, k1, hm => by
    have hd : ∀ r, c r = true → rAnd (u r) (bt p r) = false := fun r hr => rAnd_f.mpr (.inl (h.dj r hr))
    have hc := cnt_or n hd
    have hl := cnt_cut u (bt p) n
    unfold fsR at hm
    by_cases h1 : k < cntF (fun r => rAnd (u r) (bt p r)) n
    · rw [if_pos h1] at hm
      obtain ⟨c', u', k', a1, a2⟩ := fsR_mid (m := m + 1) j (by omega) (h.stepA (by omega)) e k0 h1 (by omega)
      exact ⟨c', u', k', by omega, by rw [show p + 1 - (j + 1) = p - j by omega]; exact a2⟩
    · rw [if_neg h1] at hm
      by_cases h2 : k - cntF (fun r => rAnd (u r) (bt p r)) n = 0
      · rw [if_pos h2] at hm
        have : m + (j + 1) < m + 1 := hm
        omega
      · rw [if_neg h2] at hm
        obtain ⟨c', u', k', a1, a2⟩ := fsR_mid (K := K) (m := m + 1) j (by omega) (h.stepB (by omega)) (k := k - cntF (fun r => rAnd (u r) (bt p r)) n) (by rw [hc]; omega) (by omega) (by rw [hl]; omega) (by omega)
        exact ⟨c', u', k', by omega, by rw [show p + 1 - (j + 1) = p - j by omega]; exact a2⟩
theorem frE_congr {n : Int} {fR pr : Int → Bool} {bt bt' : Nat → Int → Bool} {w f : Nat} {k : Int} (hf : f ≤ w + 1) (h : ∀ q, w + 1 - f ≤ q → q < w → ∀ r, fR r = true → bt' q r = bt q r) (hm : (frE n fR pr bt w k).2 ≤ f) : frE n fR pr bt' w k = frE n fR pr bt w k := by
  unfold frE at hm ⊢
  split
  · rfl
  · rename_i h1
    rw [if_neg h1] at hm
    split
    · rfl
    · rename_i h2
      rw [if_neg h2] at hm
      have hm : 1 + (fsR n.toNat bt w (fun _ => false) (fun r => rAnd (fR r) (pr r)) k 0).m ≤ f := hm
      rw [fsR_congr (n := n.toNat) (bt := bt) (bt' := bt') (p0 := w + 1 - f) (p := w) (by omega) (fun q q1 q2 r hr => h q q1 q2 r (rAnd_t.mp hr).1) (by omega)]
theorem frE_pr {n : Int} {fR pr pr' : Int → Bool} {bt : Nat → Int → Bool} {w : Nat} {k : Int} (h : ∀ r, fR r = true → pr' r = pr r) : frE n fR pr' bt w k = frE n fR pr bt w k := by
  have e : ∀ r, rAnd (fR r) (pr' r) = rAnd (fR r) (pr r) := fun r => by
    cases hr : fR r with
    | false => rfl
    | true => rw [h r hr]
  unfold frE
  simp only [e]
theorem frE_0 {n : Int} {fR pr pr' : Int → Bool} {bt bt' : Nat → Int → Bool} {w : Nat} {k : Int} (hm : (frE n fR pr bt w k).2 ≤ 0) : frE n fR pr' bt' w k = frE n fR pr bt w k := by
  unfold frE at hm ⊢
  split
  · rfl
  · rename_i h1
    rw [if_neg h1] at hm
    split at hm
    · have : 1 ≤ 0 := hm
      omega
    · have : 1 + _ ≤ 0 := hm
      omega
theorem ahd_asym {bt : Nat → Int → Bool} {w p q : Nat} {r r' : Int} (h1 : Ahd bt w p r r') (h2 : Ahd bt w q r' r) : False := by
  obtain ⟨a, _, a2, a3, a4, a5⟩ := h1
  obtain ⟨b, _, b2, b3, b4, b5⟩ := h2
  rcases Nat.lt_trichotomy a b with l | l | l
  · have := a5 b (by omega) b2; rw [b3, b4] at this; cases this
  · subst l; rw [a3] at b4; cases b4
  · have := b5 a (by omega) a2; rw [a3, a4] at this; cases this
theorem bef_ahd {bt : Nat → Int → Bool} {w q : Nat} {r r' : Int} (h1 : Bef bt w r r') (h2 : Ahd bt w q r' r) : False := by
  rcases h1 with h | ⟨h, _⟩
  · exact ahd_asym h h2
  · obtain ⟨b, _, b2, b3, b4, _⟩ := h2
    have := h b (Nat.zero_le _) b2
    rw [b3, b4] at this; cases this
theorem FI.congr {bt bt' : Nat → Int → Bool} {w p : Nat} {U0 c u : Int → Bool} (h : FI bt w p U0 c u) (e : ∀ q, p ≤ q → q < w → bt' q = bt q) : FI bt' w p U0 c u := by
  have eE : ∀ {p' r r'}, p ≤ p' → Eqv bt w p' r r' → Eqv bt' w p' r r' := fun l z q q1 q2 => by rw [e q (by omega) q2]; exact z q q1 q2
  have eA : ∀ {r r'}, Ahd bt w p r r' → Ahd bt' w p r r' := fun ⟨q, q1, q2, q3, q4, q5⟩ => ⟨q, q1, q2, by rw [e q q1 q2]; exact q3, by rw [e q q1 q2]; exact q4, eE (by omega) q5⟩
  exact ⟨h.sub, h.dj, fun r r' a b => eE (Nat.le_refl _) (h.eq r r' a b), fun r r' a b => eA (h.cu r r' a b), fun r r' a b c d => eA (h.cx r r' a b c d), fun r r' a b c d => eA (h.ux r r' a b c d)⟩
theorem last_of {u : Int → Bool} : ∀ {n : Nat}, 0 < cntF u n → ∃ r : Nat, r < n ∧ u r = true ∧ ∀ j : Nat, r < j → j < n → u j = false
  | 0, h => absurd h (Int.lt_irrefl 0)
  | n + 1, h => by
    cases hu : u (n : Int) with
    | true => exact ⟨n, by omega, hu, fun j a b => by omega⟩
    | false =>
      have h : 0 < cntF u n + (if u (n : Int) = true then 1 else 0) := h
      rw [hu, if_neg Bool.false_ne_true] at h
      obtain ⟨r, r1, r2, r3⟩ := last_of (u := u) (n := n) (by omega)
      exact ⟨r, by omega, r2, fun j a b => by
        by_cases g : j = n
        · rw [g]; exact hu
        · exact r3 j a (by omega)⟩
theorem cnt_le2 {f g : Int → Bool} : ∀ n : Nat, (∀ j : Nat, j < n → f j = true → g j = true) → cntF f n ≤ cntF g n
  | 0, _ => Int.le_refl _
  | n + 1, h => by
    have ih := cnt_le2 n fun j hj => h j (by omega)
    show cntF f n + (if f (n : Int) = true then 1 else 0) ≤ cntF g n + (if g (n : Int) = true then 1 else 0)
    cases hf : f (n : Int) with
    | true => rw [h n (by omega) hf]; exact Int.add_le_add_right ih _
    | false =>
      rw [if_neg Bool.false_ne_true]
      split <;> omega
/-- two ways to go on, after j places -/
theorem frE_two {n : Int} {fR pr : Int → Bool} {bt : Nat → Int → Bool} {w : Nat} {k : Int} (j : Nat) (k0 : 0 ≤ k) (hm : 1 + j < (frE n fR pr bt w k).2) :
    ∃ (bt1 bt2 : Nat → Int → Bool) (r : Nat), (∀ q, w - j ≤ q → q < w → bt1 q = bt q ∧ bt2 q = bt q) ∧ (r : Int) < n ∧ fR r = true ∧ (frE n fR pr bt1 w k).1 r = false ∧ (frE n fR pr bt2 w k).1 r = true := by
  have hU := cnt_bd (fun r => rAnd (fR r) (pr r)) n.toNat
  unfold frE at hm
  split at hm
  · have : 1 + j < 0 := hm
    omega
  rename_i h1
  split at hm
  · have : 1 + j < 1 := hm
    omega
  rename_i h2
  have hm : 1 + j < 1 + (fsR n.toNat bt w (fun _ => false) (fun r => rAnd (fR r) (pr r)) k 0).m := hm
  have h0 : cntF (fun _ => false) n.toNat = 0 := cnt_none (fun _ => rfl) _
  have I0 : FI bt w w (fun r => rAnd (fR r) (pr r)) (fun _ => false) (fun r => rAnd (fR r) (pr r)) := ⟨fun r z => by rcases z with z | z; cases z; exact z, fun r z => (by cases z), fun r r' _ _ q q1 q2 => by omega, fun r r' z => (by cases z), fun r r' z => (by cases z), fun r r' _ z1 _ z2 => by
    have z2 : rAnd (fR r') (pr r') = false := z2
    rw [z1] at z2; cases z2⟩
  obtain ⟨c, u, k', hj, I, e, kp, ku⟩ := fsR_mid (n := n.toNat) (K := k) (m := 0) j (Nat.le_refl w) I0 (by rw [h0]; omega) (by omega) (by omega : k < cntF (fun r => rAnd (fR r) (pr r)) n.toNat) (by omega)
  obtain ⟨r, rn, ru, rl⟩ := last_of (u := u) (n := n.toNat) (by omega)
  have rU := I.sub r (.inr ru)
  have IA : FI (fun q s => if q < w - j then false else bt q s) w (w - j) (fun r => rAnd (fR r) (pr r)) c u := I.congr fun q q1 q2 => by
    funext s
    show (if q < w - j then false else bt q s) = _
    rw [if_neg (by omega)]
  have IB : FI (fun q s => if q < w - j then decide (s = (r : Int)) else bt q s) w (w - j) (fun r => rAnd (fR r) (pr r)) c u := I.congr fun q q1 q2 => by
    funext s
    show (if q < w - j then decide (s = (r : Int)) else bt q s) = _
    rw [if_neg (by omega)]
  refine ⟨fun q s => if q < w - j then false else bt q s, fun q s => if q < w - j then decide (s = (r : Int)) else bt q s, r, fun q q1 q2 => ⟨?_, ?_⟩, by omega, (rAnd_t.mp rU).1, ?_, ?_⟩
  · funext s
    show (if q < w - j then false else bt q s) = _
    rw [if_neg (by omega)]
  · funext s
    show (if q < w - j then decide (s = (r : Int)) else bt q s) = _
    rw [if_neg (by omega)]
  · obtain ⟨f1, f2, f3, f4⟩ := frE_sub (n := n) (fR := fR) (pr := pr) (bt := fun q s => if q < w - j then false else bt q s) (w := w) (k := k) k0
    refine Bool.eq_false_iff.mpr fun hr => ?_
    have all : ∀ s : Nat, s < n.toNat → rOr (c s) (u s) = true → (frE n fR pr (fun q s => if q < w - j then false else bt q s) w k).1 s = true := fun s hs hcu => by
      refine Bool.not_eq_false _ ▸ fun hx => ?_
      have sU := I.sub s (rOr_t.mp hcu)
      have B := f4 r s (by omega) (by omega) (by omega) (by omega) hr sU hx
      rcases rOr_t.mp hcu with z | z
      · exact bef_ahd B (IA.cu s r z ru)
      · rcases B with B | ⟨_, B⟩
        · obtain ⟨q, q1, q2, q3, q4, q5⟩ := B
          by_cases g : q < w - j
          · have q3 : (if q < w - j then false else bt q r) = true := q3
            rw [if_pos g] at q3; cases q3
          · have := IA.eq r s ru z q (by omega) q2
            rw [q3, q4] at this; cases this
        · by_cases g : s = r
          · rw [g, hr] at hx; cases hx
          · have := rl s (by omega) hs
            rw [z] at this; cases this
    have l := cnt_le2 (f := fun s => rOr (c s) (u s)) (g := (frE n fR pr (fun q s => if q < w - j then false else bt q s) w k).1) n.toNat all
    rw [cnt_or n.toNat I.dj, f2] at l
    omega
  · obtain ⟨f1, f2, f3, f4⟩ := frE_sub (n := n) (fR := fR) (pr := pr) (bt := fun q s => if q < w - j then decide (s = (r : Int)) else bt q s) (w := w) (k := k) k0
    refine Bool.not_eq_false _ ▸ fun hr => ?_
    have all : ∀ s : Nat, s < n.toNat → (frE n fR pr (fun q s => if q < w - j then decide (s = (r : Int)) else bt q s) w k).1 s = true → c s = true := fun s hs hx => by
      have sU := f1 s hx
      have B := f4 s r (by omega) (by omega) (by omega) (by omega) hx rU hr
      refine Bool.not_eq_false _ ▸ fun hc => ?_
      cases hu : u s with
      | false => exact bef_ahd B (IB.ux r s ru sU hc hu)
      | true =>
        have ne : (s : Int) ≠ r := fun e => by rw [e, hr] at hx; cases hx
        refine bef_ahd B (⟨w - j - 1, Nat.zero_le _, by omega, ?_, ?_, fun q q1 q2 => IB.eq r s ru hu q (by omega) q2⟩ : Ahd (fun q s => if q < w - j then decide (s = (r : Int)) else bt q s) w 0 r s)
        · show (if w - j - 1 < w - j then decide ((r : Int) = r) else _) = true
          rw [if_pos (by omega), decide_eq_true rfl]
        · show (if w - j - 1 < w - j then decide ((s : Int) = r) else _) = false
          rw [if_pos (by omega), decide_eq_false ne]
    have l := cnt_le2 (f := (frE n fR pr (fun q s => if q < w - j then decide (s = (r : Int)) else bt q s) w k).1) (g := c) n.toNat all
    rw [f2] at l
    omega
end S
-- deps: Fch
namespace S
/-! ## first rows of a grid: slice 0 tells presence, slice 1 the sign, then downward -/
abbrev gbt (g : Nat → Int → Bool) (w : Nat) (top : Bool) : Nat → Int → Bool := btF (fun p r => g (w - p) r) w top
abbrev frG (n : Int) (fR : Int → Bool) (g : Nat → Int → Bool) (w : Nat) (top : Bool) (k : Int) : (Int → Bool) × Nat := frE n fR (g 0) (gbt g w top) w k
theorem btF_at {b b' : Nat → Int → Bool} {w : Nat} {top : Bool} {q : Nat} {r : Int} (h : b' q r = b q r) : btF b' w top q r = btF b w top q r := by unfold btF; rw [h]
theorem btF_2 {b : Nat → Int → Bool} {w : Nat} {top : Bool} {q : Nat} {r : Int} : btF (btF b w top) w top q r = b q r := by
  unfold btF
  split
  · rw [Bool.not_not]
  · rfl
theorem frG_le {n : Int} {fR : Int → Bool} {g : Nat → Int → Bool} {w : Nat} {top : Bool} {k : Int} (k0 : 0 ≤ k) : (frG n fR g w top k).2 ≤ w + 1 := by
  have := (frE_sub (n := n) (fR := fR) (pr := g 0) (bt := gbt g w top) (w := w) k0).2.2.1
  show (frE n fR (g 0) (gbt g w top) w k).2 ≤ w + 1
  omega
/-- what is read decides -/
theorem frG_congr {n : Int} {fR : Int → Bool} {g g' : Nat → Int → Bool} {w : Nat} {top : Bool} {k : Int} {f : Nat} (hf : f ≤ w + 1) (hm : (frG n fR g w top k).2 ≤ f) (e : ∀ s, s < f → ∀ r, fR r = true → g' s r = g s r) : frG n fR g' w top k = frG n fR g w top k := by
  by_cases f0 : f = 0
  · subst f0
    exact frE_0 hm
  · have e1 : frE n fR (g' 0) (gbt g' w top) w k = frE n fR (g 0) (gbt g' w top) w k := frE_pr fun r hr => e 0 (by omega) r hr
    show frE n fR (g' 0) (gbt g' w top) w k = _
    rw [e1]
    exact frE_congr hf (fun q q1 q2 r hr => btF_at (e (w - q) (by omega) r hr)) hm
/-- what is not all read does not decide -/
theorem frG_two {n : Int} {fR : Int → Bool} {g : Nat → Int → Bool} {w : Nat} {top : Bool} {k : Int} {f : Nat} (k0 : 0 ≤ k) (hm : f < (frG n fR g w top k).2) :
    ∃ (g1 g2 : Nat → Int → Bool) (r : Nat), (∀ s, s < f → g1 s = g s ∧ g2 s = g s) ∧ (r : Int) < n ∧ fR r = true ∧ (frG n fR g1 w top k).1 r = false ∧ (frG n fR g2 w top k).1 r = true := by
  have hm : f < (frE n fR (g 0) (gbt g w top) w k).2 := hm
  match f, hm with
  | 0, hm =>
    have ne : ¬ (k = 0 ∨ cntF fR n.toNat = 0) := fun h => by
      unfold frE at hm
      rw [if_pos h] at hm
      exact absurd hm (Nat.lt_irrefl 0)
    have hb := cnt_bd fR n.toNat
    obtain ⟨_, t2, _⟩ := frE_sub (n := n) (fR := fR) (pr := fun _ => true) (bt := gbt (fun _ _ => true) w top) (w := w) (k := k) k0
    have e1 : (fun r => rAnd (fR r) true) = fR := by funext r; cases fR r <;> rfl
    rw [e1] at t2
    obtain ⟨r, r1, r2⟩ := cnt_pos72 (show 0 < cntF (frE n fR (fun _ => true) (gbt (fun _ _ => true) w top) w k).1 n.toNat by omega)
    obtain ⟨t1, _⟩ := frE_sub (n := n) (fR := fR) (pr := fun _ => true) (bt := gbt (fun _ _ => true) w top) (w := w) (k := k) k0
    obtain ⟨s1, _⟩ := frE_sub (n := n) (fR := fR) (pr := fun _ => false) (bt := gbt (fun _ _ => false) w top) (w := w) (k := k) k0
    refine ⟨fun _ _ => false, fun _ _ => true, r, fun s hs => absurd hs (Nat.not_lt_zero _), by omega, (rAnd_t.mp (t1 _ r2)).1, ?_, r2⟩
    refine Bool.eq_false_iff.mpr fun hx => ?_
    have := (rAnd_t.mp (s1 _ hx)).2
    cases this
  | j + 1, hm =>
    obtain ⟨b1, b2, r, h1, h2, h3, h4, h5⟩ := frE_two (n := n) (fR := fR) (pr := g 0) (bt := gbt g w top) (w := w) j k0 (by omega)
    have go : ∀ b : Nat → Int → Bool, (∀ q, w - j ≤ q → q < w → b q = gbt g w top q) → ∃ g' : Nat → Int → Bool, (∀ s, s < j + 1 → g' s = g s) ∧ frG n fR g' w top k = frE n fR (g 0) b w k := fun b hb => by
      refine ⟨fun s r => if s < j + 1 then g s r else btF b w top (w - s) r, fun s hs => funext fun r => if_pos hs, ?_⟩
      have e0 : (fun r => if 0 < j + 1 then g 0 r else btF b w top (w - 0) r) = g 0 := funext fun r => if_pos (Nat.succ_pos _)
      show frE n fR (fun r => if 0 < j + 1 then g 0 r else btF b w top (w - 0) r) _ w k = _
      rw [e0]
      refine frE_congr (f := w + 1) (Nat.le_refl _) (fun q _ q2 r _ => ?_) (by have := (frE_sub (n := n) (fR := fR) (pr := g 0) (bt := b) (w := w) k0).2.2.1; omega)
      by_cases hq : w - q < j + 1
      · rw [hb q (by omega) q2]
        exact btF_at (if_pos hq)
      · rw [show b q r = btF (btF b w top) w top q r from btF_2.symm]
        refine btF_at ?_
        show (if w - q < j + 1 then g (w - q) r else btF b w top (w - (w - q)) r) = _
        rw [if_neg hq, show w - (w - q) = q by omega]
    obtain ⟨g1, a1, a2⟩ := go b1 fun q q1 q2 => (h1 q q1 q2).1
    obtain ⟨g2, c1, c2⟩ := go b2 fun q q1 q2 => (h1 q q1 q2).2
    exact ⟨g1, g2, r, fun s hs => ⟨a1 s hs, c1 s hs⟩, h2, h3, by rw [a2]; exact h4, by rw [c2]; exact h5⟩
/-! ### fills by numbers -/
theorem num_of (f : Nat → Bool) : ∀ m : Nat, ∃ N : Nat, N < 2 ^ m ∧ ∀ i, i < m → N.testBit i = f i
  | 0 => ⟨0, by decide, fun i h => absurd h (Nat.not_lt_zero _)⟩
  | m + 1 => by
    obtain ⟨N, h1, h2⟩ := num_of (fun i => f (i + 1)) m
    refine ⟨2 * N + (f 0).toNat, ?_, fun i hi => ?_⟩
    · have : (f 0).toNat ≤ 1 := by cases f 0 <;> decide
      rw [Nat.pow_succ]; omega
    · cases i with
      | zero =>
        rw [Nat.testBit_zero]
        cases f 0 <;> simp [Nat.add_mod]
      | succ i =>
        rw [Nat.testBit_succ, ← h2 i (by omega)]
        have : (2 * N + (f 0).toNat) / 2 = N := by
          have : (f 0).toNat ≤ 1 := by cases f 0 <;> decide
          omega
        rw [this]
/-- the rows of f -/
def rowsN (f : Int → Bool) (n : Nat) : List Nat := (List.range n).filter fun j => f (j : Int)
abbrev rowsL (f : Int → Bool) (n : Nat) : List Int := (rowsN f n).map fun j : Nat => (j : Int)
theorem rowsN_mem {f : Int → Bool} {n j : Nat} : j ∈ rowsN f n ↔ j < n ∧ f (j : Int) = true := by unfold rowsN; rw [List.mem_filter, List.mem_range]
theorem rowsN_nd {f : Int → Bool} {n : Nat} : (rowsN f n).Nodup := List.nodup_range.filter _
theorem rowsN_len {f : Int → Bool} : ∀ n : Nat, ((rowsN f n).length : Int) = cntF f n
  | 0 => rfl
  | n + 1 => by
    have ih := rowsN_len (f := f) n
    show _ = cntF f n + (if f (n : Int) = true then 1 else 0)
    unfold rowsN at ih ⊢
    rw [List.range_succ, List.filter_append, List.length_append]
    cases hf : f (n : Int) with
    | true => rw [show [n].filter (fun j : Nat => f (j : Int)) = [n] by simp [hf]]; simp; omega
    | false => rw [show [n].filter (fun j : Nat => f (j : Int)) = [] by simp [hf]]; simp; omega
theorem rowsN_le {f : Int → Bool} {n : Nat} : (rowsN f n).length ≤ n := by
  have := List.length_filter_le (fun j : Nat => f (j : Int)) (List.range n)
  rw [List.length_range] at this
  exact this
/-- the grid from slice f on filled by the bits of N -/
def gN (g : Nat → Int → Bool) (f : Nat) (R : List Nat) (N s : Nat) (r : Int) : Bool := if s < f then g s r else N.testBit ((s - f) * R.length + R.idxOf r.toNat)
theorem gN_of {g g' : Nat → Int → Bool} {f w : Nat} {R : List Nat} (hf : f ≤ w + 1) (h : ∀ s, s < f → g' s = g s) : ∃ N, N < 2 ^ (R.length * (w + 1 - f)) ∧ ∀ s, s < w + 1 → ∀ j ∈ R, gN g f R N s (j : Nat) = g' s (j : Nat) := by
  by_cases R0 : R.length = 0
  · rw [List.length_eq_zero_iff.mp R0]
    exact ⟨0, by simp, fun _ _ j hj => nomatch hj⟩
  have Rp : 0 < R.length := Nat.pos_of_ne_zero R0
  obtain ⟨N, h1, h2⟩ := num_of (fun i => g' (f + i / R.length) ((R.getD (i % R.length) 0 : Nat) : Int)) (R.length * (w + 1 - f))
  refine ⟨N, h1, fun s hs j hj => ?_⟩
  unfold gN
  by_cases l : s < f
  · rw [if_pos l, h s l]
  · rw [if_neg l, Int.toNat_natCast]
    have li := List.idxOf_lt_length_of_mem hj
    have eq1 : ((s - f) * R.length + R.idxOf j) / R.length = s - f := by
      rw [Nat.mul_comm, Nat.mul_add_div Rp, Nat.div_eq_of_lt li]; rfl
    have eq2 : ((s - f) * R.length + R.idxOf j) % R.length = R.idxOf j := by
      rw [Nat.mul_comm, Nat.mul_add_mod, Nat.mod_eq_of_lt li]
    have lt : (s - f) * R.length + R.idxOf j < R.length * (w + 1 - f) := by
      have : (s - f + 1) * R.length ≤ R.length * (w + 1 - f) := by rw [Nat.mul_comm]; exact Nat.mul_le_mul_left _ (by omega)
      rw [Nat.add_mul, Nat.one_mul] at this
      omega
    rw [h2 _ lt]
    simp only [eq1, eq2]
    have gd : R.getD (R.idxOf j) 0 = j := by
      rw [List.getD_eq_getElem?_getD, List.getElem?_eq_getElem li, Option.getD_some, List.getElem_idxOf]
    rw [gd, show f + (s - f) = s by omega]
/-- all fills of the slices from f on choose the same rows exactly if f slices decide -/
theorem settled_iff {n : Int} {fR : Int → Bool} {g : Nat → Int → Bool} {w : Nat} {top : Bool} {k : Int} {f : Nat} (k0 : 0 ≤ k) (hf : f ≤ w + 1) (hR : ∀ r, fR r = true → 0 ≤ r ∧ r < n) :
    (∀ N, N < 2 ^ ((rowsN fR n.toNat).length * (w + 1 - f)) → rowsN (frG n fR (gN g f (rowsN fR n.toNat) N) w top k).1 n.toNat = rowsN (frG n fR (gN g f (rowsN fR n.toNat) 0) w top k).1 n.toNat) ↔ (frG n fR g w top k).2 ≤ f := by
  constructor
  · intro h
    refine Nat.not_lt.mp fun hm => ?_
    obtain ⟨g1, g2, r, h1, h2, h3, h4, h5⟩ := frG_two k0 hm
    obtain ⟨N1, a1, a2⟩ := gN_of (R := rowsN fR n.toNat) hf fun s hs => (h1 s hs).1
    obtain ⟨N2, c1, c2⟩ := gN_of (R := rowsN fR n.toNat) hf fun s hs => (h1 s hs).2
    have rr : r ∈ rowsN fR n.toNat := rowsN_mem.mpr ⟨by omega, h3⟩
    have go : ∀ (g' : Nat → Int → Bool) (N : Nat), (∀ s, s < w + 1 → ∀ j ∈ rowsN fR n.toNat, gN g f (rowsN fR n.toNat) N s (j : Nat) = g' s (j : Nat)) → rowsN (frG n fR (gN g f (rowsN fR n.toNat) N) w top k).1 n.toNat = rowsN (frG n fR g' w top k).1 n.toNat := fun g' N e => by
      have e2 : frG n fR (gN g f (rowsN fR n.toNat) N) w top k = frG n fR g' w top k := frG_congr (Nat.le_refl _) (frG_le k0) fun s hs r hr => by
        have r2 := hR r hr
        obtain ⟨j, rfl⟩ : ∃ j : Nat, r = j := ⟨r.toNat, by omega⟩
        exact e s hs j (rowsN_mem.mpr ⟨by omega, hr⟩)
      rw [e2]
    have e1 := go g1 N1 a2
    have e2 := go g2 N2 c2
    rw [h N1 a1] at e1
    rw [h N2 c1] at e2
    have m1 : r ∈ rowsN (frG n fR g2 w top k).1 n.toNat := rowsN_mem.mpr ⟨by omega, h5⟩
    rw [← e2, e1] at m1
    have := (rowsN_mem.mp m1).2
    rw [h4] at this; cases this
  · intro h N _
    have e : ∀ N, frG n fR (gN g f (rowsN fR n.toNat) N) w top k = frG n fR g w top k := fun N => frG_congr hf h fun s hs r _ => if_pos hs
    rw [e N, e 0]
end S
-- deps: Fcg
namespace S
/-! ## the rows chosen by sorted keys are those of the slices -/
def keyG (g : Nat → Int → Bool) (w : Nat) (top : Bool) (r : Int) : Int := if top = true then 0 - twos ((List.range w).map fun i => g (w - i) r) else twos ((List.range w).map fun i => g (w - i) r)
theorem nd_len72 {κ : Type} [DecidableEq κ] : ∀ {xs ys : List κ}, xs.Nodup → (∀ x ∈ xs, x ∈ ys) → xs.length ≤ ys.length
  | [], _, _, _ => Nat.zero_le _
  | x :: xs, ys, nd, h => by
    have hx := h x List.mem_cons_self
    have nd' := List.nodup_cons.mp nd
    have := nd_len72 (xs := xs) (ys := ys.erase x) nd'.2 fun y hy => (List.mem_erase_of_ne (fun e => nd'.1 (by rw [← e]; exact hy))).mpr (h y (List.mem_cons_of_mem _ hy))
    rw [List.length_erase_of_mem hx] at this
    have : 0 < ys.length := List.length_pos_of_mem hx
    rw [List.length_cons]; omega
theorem rowsL_asc {f : Int → Bool} {n : Nat} : (rowsL f n).Pairwise (· < ·) := by
  show ((rowsN f n).map fun j : Nat => (j : Int)).Pairwise (· < ·)
  rw [List.pairwise_map]
  refine ((List.pairwise_lt_range (n := n)).filter _).imp ?_
  intro a b h
  exact Int.ofNat_lt.mpr h
theorem rowsL_mem {f : Int → Bool} {n : Nat} {r : Int} : r ∈ rowsL f n ↔ 0 ≤ r ∧ r < n ∧ f r = true := by
  rw [List.mem_map]
  constructor
  · rintro ⟨j, hj, rfl⟩
    obtain ⟨h1, h2⟩ := rowsN_mem.mp hj
    exact ⟨by omega, by omega, h2⟩
  · rintro ⟨h1, h2, h3⟩
    exact ⟨r.toNat, rowsN_mem.mpr ⟨by omega, by rw [Int.toNat_of_nonneg h1]; exact h3⟩, by omega⟩
theorem rowsL_nd {f : Int → Bool} {n : Nat} : (rowsL f n).Nodup := rowsL_asc.imp fun {a b} h e => by rw [e] at h; exact Int.lt_irrefl _ h
theorem le_key {a b r s : Int} (h : ([a, r] : List Int) ≤ [b, s]) : a < b ∨ (a = b ∧ r ≤ s) := by
  rw [List.cons_le_cons_iff] at h
  rcases h with h | ⟨h, h2⟩
  · exact .inl h
  · rw [List.cons_le_cons_iff] at h2
    rcases h2 with h2 | ⟨h2, _⟩
    · exact .inr ⟨h, by omega⟩
    · exact .inr ⟨h, by omega⟩
theorem bef_key {g : Nat → Int → Bool} {w : Nat} {top : Bool} {r s : Int} (h : Bef (gbt g w top) w r s) : keyG g w top r < keyG g w top s ∨ (keyG g w top r = keyG g w top s ∧ r ≤ s) := by
  unfold keyG
  rcases h with h | ⟨h, l⟩
  · have := btF_ahd h
    cases top with
    | true => rw [if_pos rfl] at this; rw [if_pos rfl, if_pos rfl]; left; omega
    | false => rw [if_neg Bool.false_ne_true] at this; rw [if_neg Bool.false_ne_true, if_neg Bool.false_ne_true]; left; exact this
  · have := btF_eqv h
    rw [this]
    exact .inr ⟨rfl, l⟩
theorem chc {n : Int} {fR : Int → Bool} {g : Nat → Int → Bool} {w : Nat} {top : Bool} {k : Int} (k0 : 0 ≤ k) {cs : List (List Int)} (h1 : cs.Perm ((rowsN (fun r => rAnd (fR r) (g 0 r)) n.toNat).map fun j : Nat => [keyG g w top j, (j : Int)])) (h2 : cs.Pairwise (· ≤ ·)) {bs : List Int} (h3 : bs.Perm ((cs.take k.toNat).map fun l => l.getD 1 0)) (h4 : bs.Pairwise (· ≤ ·)) : bs = rowsL (frG n fR g w top k).1 n.toNat := by
  obtain ⟨f1, f2, _, f4⟩ := frE_sub (n := n) (fR := fR) (pr := g 0) (bt := gbt g w top) (w := w) (k := k) k0
  have eX : frG n fR g w top k = frE n fR (g 0) (gbt g w top) w k := rfl
  rw [eX]
  have lU := rowsN_len (f := fun r => rAnd (fR r) (g 0 r)) n.toNat
  have lX := rowsN_len (f := (frE n fR (g 0) (gbt g w top) w k).1) n.toNat
  rw [f2, ← lU] at lX
  have lcs := h1.length_eq
  rw [List.length_map] at lcs
  have lT : ((cs.take k.toNat).map fun l => l.getD 1 0).length = (rowsL (frE n fR (g 0) (gbt g w top) w k).1 n.toNat).length := by
    rw [List.length_map, List.length_map, List.length_take]
    omega
  have pU : (cs.map fun l => l.getD 1 0).Perm (rowsL (fun r => rAnd (fR r) (g 0 r)) n.toNat) := by
    have := h1.map fun l : List Int => l.getD 1 0
    rw [List.map_map] at this
    exact this
  have ndC : (cs.map fun l => l.getD 1 0).Nodup := pU.nodup_iff.mpr rowsL_nd
  have ndT : ((cs.take k.toNat).map fun l => l.getD 1 0).Nodup := by
    rw [List.map_take]
    exact ndC.sublist (List.take_sublist _ _)
  have mem : ∀ l ∈ cs, ∃ j : Nat, l = [keyG g w top j, (j : Int)] ∧ j < n.toNat ∧ rAnd (fR j) (g 0 j) = true := fun l hl => by
    obtain ⟨j, hj, rfl⟩ := List.mem_map.mp (h1.mem_iff.mp hl)
    exact ⟨j, rfl, rowsN_mem.mp hj⟩
  have sub : ∀ x ∈ (cs.take k.toNat).map (fun l => l.getD 1 0), x ∈ rowsL (frE n fR (g 0) (gbt g w top) w k).1 n.toNat := fun x hx => by
    obtain ⟨l, hl, rfl⟩ := List.mem_map.mp hx
    obtain ⟨j, rfl, j1, j2⟩ := mem l (List.mem_of_mem_take hl)
    show (j : Int) ∈ _
    cases hX : (frE n fR (g 0) (gbt g w top) w k).1 (j : Int) with
    | true => exact rowsL_mem.mpr ⟨by omega, by omega, hX⟩
    | false =>
      exfalso
      have all : ∀ s ∈ rowsL (frE n fR (g 0) (gbt g w top) w k).1 n.toNat, s ∈ (cs.take k.toNat).map (fun l => l.getD 1 0) := fun s hs => by
        obtain ⟨s0, s1, s2⟩ := rowsL_mem.mp hs
        have B := bef_key (f4 s j s0 (by omega) (by omega) (by omega) s2 j2 hX)
        have sU : s ∈ cs.map fun l => l.getD 1 0 := pU.mem_iff.mpr (rowsL_mem.mpr ⟨s0, s1, f1 s s2⟩)
        obtain ⟨l, hl2, rfl⟩ := List.mem_map.mp sU
        obtain ⟨i, rfl, i1, i2⟩ := mem l hl2
        rw [← List.take_append_drop k.toNat cs] at hl2
        rcases List.mem_append.mp hl2 with hl2 | hl2
        · exact List.mem_map.mpr ⟨_, hl2, rfl⟩
        · exfalso
          rw [← List.take_append_drop k.toNat cs] at h2
          have := le_key ((List.pairwise_append.mp h2).2.2 _ hl _ hl2)
          have B : keyG g w top (i : Int) < keyG g w top j ∨ (keyG g w top i = keyG g w top j ∧ (i : Int) ≤ j) := B
          have : i = j := by omega
          subst this
          have s2 : (frE n fR (g 0) (gbt g w top) w k).1 (i : Int) = true := s2
          rw [hX] at s2; cases s2
      have := nd_len72 (xs := (j : Int) :: rowsL (frE n fR (g 0) (gbt g w top) w k).1 n.toNat) (ys := (cs.take k.toNat).map fun l => l.getD 1 0) (List.nodup_cons.mpr ⟨(fun z => by
        have := (rowsL_mem.mp z).2.2
        rw [hX] at this; cases this), rowsL_nd⟩) (fun y hy => by
        rcases List.mem_cons.mp hy with rfl | hy
        · exact hx
        · exact all y hy)
      rw [List.length_cons] at this
      omega
  have sup : ∀ x ∈ rowsL (frE n fR (g 0) (gbt g w top) w k).1 n.toNat, x ∈ (cs.take k.toNat).map (fun l => l.getD 1 0) := fun x hx => by
    by_cases hT : x ∈ (cs.take k.toNat).map (fun l => l.getD 1 0)
    · exact hT
    · have := nd_len72 (xs := x :: (cs.take k.toNat).map fun l => l.getD 1 0) (List.nodup_cons.mpr ⟨hT, ndT⟩) (ys := rowsL (frE n fR (g 0) (gbt g w top) w k).1 n.toNat) (fun y hy => by
        rcases List.mem_cons.mp hy with rfl | hy
        · exact hx
        · exact sub y hy)
      rw [List.length_cons] at this
      omega
  refine perm_sorted72 (h3.trans ?_) h4 (rowsL_asc.imp fun {a b} h => Int.le_of_lt h)
  exact (List.perm_ext_iff_of_nodup ndT rowsL_nd).mpr fun x => ⟨sub x, sup x⟩
end S
namespace S
open PySem PySem.Spec PyProof.Rows L2
def t__law_is_set_1 (K : Frag) (E : XK) : TS :=
    tRet (tOp (oEq K) (dLc (iRng (tCons (dVar 1) (tNil))) (gName 3) (dCmpT (oInO K "Bitmap" (sp_Bitmapdd_containsdd K) E0) (dVar 3) (dVar 0)) (dVar 3) [3]) (dVar 2))
def t__law_is_set (K : Frag) (E : XK) : TS :=
    tSeq (dIfS (dOr (dNot (dTest K (dGiv (MF K "Bitmap" [] ["object"]) (tCB (cIsi K) (tCons (dVar 0) (tCons (tC (.ref (He.ga K "Bitmap"))) (tNil))))))) (dOr (dNot (dTest K (dCall (sp__law_is_number K) (EW E) (tCons (dAt K "size" (dVar 0)) (tNil))))) (dCmpT (oNe K) (dAt K "size" (dVar 0)) (dVar 1)))) (tRet (tC (.bl false))) (tNext))
    (stop (t__law_is_set_1 K E))
end S
-- fn: _law_is_set
-- law: k72
-- in: Bitmap
-- deps: D0 D1 Bs Bm isi_bm Bitmap_contains _law_is_number Fck Lrf
namespace S
open PySem PySem.Spec PyProof.Rows L2
theorem lc_rngG {m i : Nat} {tt : TT} {te : TE} {vs : List Nat} {σ : L2.St} {H1 : Hp} {Q : VK} (pz : Nat → Bool) (f : Nat → Int) (hz : m < sizeLine)
    (hs : ∀ (j : Nat) (H : Hp) (A : V → Hp → Prop) (B : Hp → Prop), j < m → Same H1 H → (∀ H', Same H H' → pz j = true → A (.int (f j)) H') → (∀ H', Same H H' → pz j = false → B H') → wipe ((wipe σ vs).set i (some (.int j))) vs = wipe σ vs ∧ tt ((wipe σ vs).set i (some (.int j))) H fun b H3 => if b = true then te ((wipe σ vs).set i (some (.int j))) H3 A else B H3)
    (hd : ∀ D H', H1 D = none → H' D = some (.lst ((((List.range m).filter pz).map f).map V.int)) → Same H1 H' → Q (.ref D) H') :
    Wr (LcGo (gName i) tt te vs σ Q) (Itr 0 m) H1 := by
  refine ⟨fun D hD => ?_⟩
  refine lc_range (lo := 0) (Qd := fun H => Q (.ref D) H) (fun j H => H D = some (.lst ((((List.range j).filter pz).map f).map V.int)) ∧ Same H1 H) ⟨upd_same, same_new hD⟩ ?_ ?_
  · rintro j H hj ⟨h1, e⟩
    show gName i (.int (0 + (j : Int))) (wipe σ vs) H _
    rw [Int.zero_add]
    have rs : List.range (j + 1) = List.range j ++ [j] := List.range_succ
    refine hs j H _ _ hj e (fun H' e2 hp => ?_) (fun H' e2 hp => ?_)
    · refine ⟨_, e2 _ _ h1, ?_, ?_, fun b o hb => ?_⟩
      · have : ((List.range j).filter pz).length ≤ (List.range j).length := List.length_filter_le _ _
        rw [List.length_range] at this
        rw [List.length_map, List.length_map]; omega
      · rw [upd_same, rs, List.filter_append, List.filter_cons_of_pos hp, List.filter_nil, List.map_append, List.map_append]; rfl
      · rw [upd_ne (ne_of_none hb hD)]
        exact e2 _ _ (e _ _ hb)
    · refine ⟨?_, e.trans e2⟩
      rw [rs, List.filter_append, List.filter_cons_of_neg (by rw [hp]; exact Bool.false_ne_true), List.filter_nil, List.append_nil]
      exact e2 _ _ h1
  · rintro H ⟨h1, e⟩
    exact hd D H hD h1 e
def sp__law_is_set (K : Frag) : Sp := fun vs H Q _ => ∃ (b d : Addr) (n : Int) (f : Int → Bool) (m : Nat), vs = [.ref b, .int n, .ref d] ∧ Bx K H b n f m ∧ m ≤ 1000 ∧ 0 ≤ n ∧ n ≤ 10 ∧ H d = some (.lst ((rowsL f n.toNat).map V.int)) ∧
  ∀ H', Same H H' → Q (.bl true) H'
theorem pure__law_is_set {K : Frag} (vs : List V) (H : Hp) (Q : VK) (E : XK) (h : sp__law_is_set K vs H Q E) : t__law_is_set K E { nx := fun _ H' => Q .non H', rt := Q } (start ["_law_bitmap_here", "_law_size", "_law_due", "_law_row"] vs) H := by
  obtain ⟨b, d, n, f, m, rfl, hb, m1, n0, n10, hd, good⟩ := h
  obtain ⟨es, hB, les, hrow⟩ := hb
  obtain ⟨c, n0', hE, dx, p, hs, hp⟩ := id hB
  refine fun _ => ?_
  refine isi_bm hB ?_
  refine Atr.sl c hs (i := 1) rfl rfl ?_
  refine ⟨n, rfl, ?_⟩
  walk_at "gx"
  refine Atr.sl c hs (i := 1) rfl rfl ?_
  walk_at "gx"
  refine ifnf rfl ?_
  refine ⟨?_⟩
  walk_at "gx"
  refine lc_rngG (m := n.toNat) (fun j => f (j : Int)) (fun j => (j : Int)) (by rw [sizeLine_eq]; omega) ?_ ?_
  · intro j X A B hj e A2 B2
    refine ⟨rfl, ?_⟩
    have hBX := hB.same e
    obtain ⟨_, _, _, dx', p', hs', _⟩ := id hBX
    show IsO K X "Bitmap" b _
    refine .of hs' ⟨b, n, es, (j : Int), rfl, hBX, by omega, fun X2 e2 => ?_⟩
    have er : rowIn n es (j : Int) = f (j : Int) := by
      unfold rowIn
      rw [decide_eq_true (show (0 : Int) ≤ j by omega), decide_eq_true (show (j : Int) < n by omega), ← hrow j (by omega) (by omega)]; rfl
    rw [er]
    show (if f (j : Int) = true then _ else _)
    cases hf : f (j : Int) with
    | true =>
      rw [if_pos rfl]
      exact A2 X2 e2 hf
    | false =>
      rw [if_neg Bool.false_ne_true]
      exact B2 X2 e2 hf
  · intro D X nD hD e
    walk_at "gx"
    refine eqd_ll (SqL.of hD) (SqL.of (e _ _ hd)) ?_
    have er : (((List.range n.toNat).filter fun j : Nat => f (j : Int)).map fun j : Nat => (j : Int)) = rowsL f n.toNat := rfl
    rw [decide_eq_true er]
    exact good _ e
end S
namespace S
open PySem PySem.Spec PyProof.Rows L2
end S
-- fn: Column.uniform
-- law: k22
-- deps: Column_of_runs Cmp
namespace S
open PySem PySem.Spec PyProof.Rows L2
end S
namespace S
open PySem PySem.Spec PyProof.Rows L2
end S
-- fn: Column.like
-- law: k18
-- deps: Column_uniform Cmp Cx
namespace S
open PySem PySem.Spec PyProof.Rows L2
/-- what stands on the right of a column: a column, or a number for each row -/
def RightC (K : Frag) (H : Hp) (n : Int) (x : V) (m : Int) (wf : Int → Option Int) (S2 : List Int) : Prop := (∃ d, x = .ref d ∧ Cm K H d m wf S2) ∨ (∃ i, x = .int i ∧ m = n ∧ wf = (fun _ => some i) ∧ S2 = [0, 0] ∧ widI i ≤ 900)
end S
namespace S
open PySem PySem.Spec PyProof.Rows L2
end S
-- fn: extended
-- law: k13
-- deps: Sl _law_places
namespace S
open PySem PySem.Spec PyProof.Rows L2
end S
namespace S
open PySem PySem.Spec PyProof.Rows L2
def t_Bitmap_empty (K : Frag) (E : XK) : TS :=
    tRet (dGiv (CF K "Bitmap" ["ends", "size"]) (dGiv (EmpT K (V.ref (He.dflAt ("Bitmap", some "__init__") 0 K))) (dMake K "Bitmap" (spD (sp_Bitmapdd_initdd K) [V.ref (He.dflAt ("Bitmap", some "__init__") 0 K)]) (EW E) (tCons (dVar 0) (tNil)))))
end S
namespace S
open PySem PySem.Spec PyProof.Rows L2
def t_Bitmap_full (K : Frag) (E : XK) : TS :=
    tRet (dGiv (CF K "Bitmap" ["ends", "size"]) (dMake K "Bitmap" (sp_Bitmapdd_initdd K) (EW E) (tCons (dVar 0) (tCons (dCall (sp_turned K) (EW E) (tCons (dTup K (tNil)) (tCons (dVar 0) (tNil)))) (tNil)))))
end S
-- fn: Bitmap.empty Bitmap.full
-- law: k13
-- deps: Bm Bitmap_init turned turned_law
namespace S
open PySem PySem.Spec PyProof.Rows L2
def sp_Bitmap_empty (K : Frag) : Sp := fun vs H Q E => ∃ (n : Int), vs = [.int n] ∧ (0 ≤ n → ∀ z H', Same H H' → H z = none → Bm K H' z n [] → Q (.ref z) H') ∧ (n < 0 → XF K "BadBitmap" → ∀ H', Same H H' → E (.ref (He.ga K "BadBitmap")) none H')
theorem pure_Bitmap_empty {K : Frag} (vs : List V) (H : Hp) (Q : VK) (E : XK) (h : sp_Bitmap_empty K vs H Q E) : t_Bitmap_empty K E { nx := fun _ H' => Q .non H', rt := Q } (start ["size"] vs) H := by
  obtain ⟨n, rfl, good, bad⟩ := h
  refine fun cf => ?_
  rintro ⟨d, hd, hE⟩
  have key := mk_bitmap (K := K) (H := H) (n := n) (es := []) (p := d) (R := fun z H' => Q (.ref z) H') (E := E) cf (.inr (hE H)) (fun h0 _ z H' e nz hz => good h0 z H' e nz hz) (fun hb xf H' e => bad (by
    by_cases h0 : 0 ≤ n
    · exact absurd ⟨h0, .nil, fun _ z => nomatch z⟩ hb
    · omega) xf H' e)
  rw [hd]
  exact key
def sp_Bitmap_full (K : Frag) : Sp := fun vs H Q E => ∃ (n : Int), vs = [.int n] ∧ (0 ≤ n → ∀ z H', Same H H' → H z = none → Bm K H' z n (mTurned [] n) → Q (.ref z) H') ∧ (n < 0 → XF K "BadBitmap" → ∀ H', Same H H' → E (.ref (He.ga K "BadBitmap")) none H')
theorem pure_Bitmap_full {K : Frag} (vs : List V) (H : Hp) (Q : VK) (E : XK) (h : sp_Bitmap_full K vs H Q E) : t_Bitmap_full K E { nx := fun _ H' => Q .non H', rt := Q } (start ["size"] vs) H := by
  obtain ⟨n, rfl, good, bad⟩ := h
  refine fun cf => ?_
  walk_at "gx"
  refine ⟨fun p H1 e1 hp => ?_⟩
  refine ⟨p, [], n, rfl, .inr hp, by decide, fun t H2 e2 ht => ?_⟩
  refine mk_bitmap cf (.inr ht) (fun h0 _ z H' e nz hz => good h0 z H' ((e1.trans e2).trans e) ?_ hz) (fun hb xf H' e => bad (by
    by_cases h0 : 0 ≤ n
    · exact absurd ⟨h0, turned_ends ⟨.nil, fun _ z => nomatch z⟩ h0⟩ hb
    · omega) xf H' ((e1.trans e2).trans e))
  cases e3 : H z with
  | none => rfl
  | some o => rw [e2 _ _ (e1 _ _ e3)] at nz; cases nz
end S
namespace S
open PySem PySem.Spec PyProof.Rows L2
end S
namespace S
open PySem PySem.Spec PyProof.Rows L2
end S
-- fn: added negated
-- law: k13
-- own: BitXor=Bitmap BitAnd=Bitmap BitOr=Bitmap Invert=Bitmap
-- deps: Bs extended Bitmap_empty _law_places _law_rows_of
namespace S
open PySem PySem.Spec PyProof.Rows L2
end S
namespace S
open PySem PySem.Spec PyProof.Rows L2
end S
-- fn: Column.__add__
-- law: k18
-- own: BitAnd=Bitmap
-- deps: Column_like added Column_init Cmp Cx
namespace S
open PySem PySem.Spec PyProof.Rows L2
def opO (f : Int → Int → Int) (v w : Option Int) : Option Int := match v, w with
  | some a, some b => some (f a b)
  | _, _ => none
end S
namespace S
open PySem PySem.Spec PyProof.Rows L2
end S
namespace S
open PySem PySem.Spec PyProof.Rows L2
end S
-- fn: Column.__lshift__ Column.__rshift__
-- law: k19
-- deps: Column_ops Bitmap_empty extended
namespace S
open PySem PySem.Spec PyProof.Rows L2
theorem twos_drop1 {b : Bool} {bs : List Bool} (h : bs ≠ []) : twos bs = twos (b :: bs) / 2 := by
  rw [twos_cons b h]
  have : b2n b = 0 ∨ b2n b = 1 := by cases b <;> simp [b2n]
  omega
theorem twos_drop : ∀ (j : Nat) (bs : List Bool), j < bs.length → twos (bs.drop j) = twos bs / 2 ^ j
  | 0, bs, _ => by simp
  | j + 1, [], h => by simp at h
  | j + 1, b :: bs, h => by
    have h' : j < bs.length := by simpa using h
    have ne : bs ≠ [] := fun z => by rw [z] at h'; simp at h'
    rw [List.drop_succ_cons, twos_drop j bs h', twos_drop1 (b := b) ne, Int.ediv_ediv_of_nonneg (by decide)]
    have e : (2 : Int) ^ (j + 1) = 2 * 2 ^ j := by rw [Int.pow_succ, Int.mul_comm]
    rw [e]
theorem div_big {v : Int} {p k : Nat} (h0 : -(2 ^ p : Int) ≤ v) (h1 : v < 2 ^ p) (hk : p ≤ k) : v / 2 ^ k = v / 2 ^ p := by
  have hp : (0 : Int) < 2 ^ p := Int.pow_pos (by decide)
  have hk2 : (0 : Int) < 2 ^ k := Int.pow_pos (by decide)
  have hle := pow_up hk
  by_cases hv : 0 ≤ v
  · rw [Int.ediv_eq_zero_of_lt hv h1, Int.ediv_eq_zero_of_lt hv (by omega)]
  · have a1 : v / 2 ^ k = -1 := by
      apply Int.le_antisymm
      · have := Int.ediv_lt_of_lt_mul hk2 (a := v) (b := 0) (by omega); omega
      · exact Int.le_ediv_of_mul_le hk2 (by omega)
    have a2 : v / 2 ^ p = -1 := by
      apply Int.le_antisymm
      · have := Int.ediv_lt_of_lt_mul hp (a := v) (b := 0) (by omega); omega
      · exact Int.le_ediv_of_mul_le hp (by omega)
    rw [a1, a2]
/-- dropping the least bits, all but the last one kept -/
theorem twos_shr {bs : List Bool} (h : bs ≠ []) (k : Nat) : twos (bs.drop (min k (bs.length - 1))) = twos bs / 2 ^ k := by
  have hl : bs.length ≠ 0 := fun z => h (List.eq_nil_of_length_eq_zero z)
  rw [twos_drop _ _ (by omega)]
  by_cases hk : k ≤ bs.length - 1
  · rw [Nat.min_eq_left hk]
  · rw [Nat.min_eq_right (by omega)]
    obtain ⟨r0, r1⟩ := twos_rangeL h
    exact (div_big r0 r1 (by omega)).symm
theorem cut_fromV {xs : List V} {d : Int} (h : 0 ≤ d) : cutV xs (some d) none = xs.drop d.toNat := by
  obtain ⟨k, rfl⟩ := Int.eq_ofNat_of_zero_le h
  unfold cutV
  rw [HT.sIx_nat, HT.sIx_none, Int.toNat_natCast]
  by_cases hk : k ≤ xs.length
  · rw [Nat.min_eq_left hk, List.take_of_length_le]
    simp
  · rw [Nat.min_eq_right (by omega), List.drop_eq_nil_of_le (by omega : xs.length ≤ k)]
    simp
end S
-- deps: Fstay
namespace S
open PySem PySem.Spec PyProof.Rows L2
/-! ### first occurrences -/
section
variable {κ ι : Type} [DecidableEq κ] [DecidableEq ι]
def ixF : List κ → κ → Nat
  | [], _ => 0
  | x :: l, k => if x = k then 0 else ixF l k + 1
theorem ixF_cons (x : κ) (l : List κ) (k : κ) : ixF (x :: l) k = if x = k then 0 else ixF l k + 1 := rfl
theorem ixF_lt : ∀ {l : List κ} {k : κ}, k ∈ l → ixF l k < l.length
  | [], _, h => nomatch h
  | x :: l, k, h => by
    unfold ixF
    split
    · simp
    · rename_i n
      rcases List.mem_cons.mp h with e | h
      · exact absurd e.symm n
      · have := ixF_lt h
        rw [List.length_cons]; omega
theorem ixF_get : ∀ {l : List κ} {k : κ}, k ∈ l → l[ixF l k]? = some k
  | [], _, h => nomatch h
  | x :: l, k, h => by
    unfold ixF
    split
    · rename_i e; rw [e]; rfl
    · rename_i n
      rcases List.mem_cons.mp h with e | h
      · exact absurd e.symm n
      · rw [List.getElem?_cons_succ]; exact ixF_get h
def addD (acc : List κ) (k : κ) : List κ := if k ∈ acc then acc else acc ++ [k]
def dstA (acc l : List κ) : List κ := l.foldl addD acc
def dst (l : List κ) : List κ := dstA [] l
theorem mem_addD {acc : List κ} {k x : κ} : x ∈ addD acc k ↔ x ∈ acc ∨ x = k := by
  unfold addD
  split
  · rename_i h; exact ⟨.inl, fun z => z.elim id fun e => e ▸ h⟩
  · rw [List.mem_append, List.mem_singleton]
theorem mem_dstA {x : κ} : ∀ {l acc : List κ}, x ∈ dstA acc l ↔ x ∈ acc ∨ x ∈ l
  | [], acc => by simp [dstA]
  | k :: l, acc => by
    show x ∈ dstA (addD acc k) l ↔ _
    rw [mem_dstA, mem_addD, List.mem_cons, or_assoc]
theorem mem_dst {x : κ} {l : List κ} : x ∈ dst l ↔ x ∈ l := by unfold dst; rw [mem_dstA]; simp
theorem addD_nd {acc : List κ} {k : κ} (h : acc.Nodup) : (addD acc k).Nodup := by
  unfold addD
  split
  · exact h
  · rename_i hk
    rw [List.nodup_append]
    exact ⟨h, by simp, fun a ha b hb => by rw [List.mem_singleton.mp hb]; exact fun e => hk (e ▸ ha)⟩
theorem dstA_nd : ∀ {l acc : List κ}, acc.Nodup → (dstA acc l).Nodup
  | [], _, h => h
  | k :: l, acc, h => dstA_nd (l := l) (addD_nd (k := k) h)
theorem dst_nd {l : List κ} : (dst l).Nodup := dstA_nd .nil
theorem dst_len (l : List κ) : (dst l).length ≤ l.length := by
  have gen : ∀ (l acc : List κ), (dstA acc l).length ≤ acc.length + l.length := by
    intro l
    induction l with
    | nil => intro acc; simp [dstA]
    | cons k l ih =>
      intro acc
      have := ih (addD acc k)
      have h2 : (addD acc k).length ≤ acc.length + 1 := by unfold addD; split <;> simp
      show (dstA (addD acc k) l).length ≤ _
      rw [List.length_cons]; omega
  have := gen l []
  simpa [dst] using this
/-- the numbers by first occurrence -/
def num (l : List κ) : List Nat := l.map (ixF (dst l))
end
/-! ### tables and trees -/
abbrev Lvs := List (List (Nat × Nat))
abbrev Ends3 := List (Option Bool)
inductive BT where
  | lf (o : Option Bool)
  | nd (l r : BT)
  deriving DecidableEq
namespace BT
def l : BT → BT
  | .lf o => .lf o
  | .nd a _ => a
def r : BT → BT
  | .lf o => .lf o
  | .nd _ b => b
def val : BT → Option Bool
  | .lf o => o
  | .nd _ _ => none
def run : BT → List Bool → Option Bool
  | .lf o, _ => o
  | .nd a _, [] => a.val
  | .nd a b, c :: bs => if c then b.run bs else a.run bs
/-- full down to m -/
def full : Nat → BT → Prop
  | 0, .lf _ => True
  | m + 1, .nd a b => full m a ∧ full m b
  | _, _ => False
end BT
def gT (T : List BT) (n : Nat) : BT := T.getD n (.lf none)
/-- the trees of a level's nodes -/
def trees : Lvs → Ends3 → List BT
  | [], es => es.map BT.lf
  | ps :: ls, es => ps.map fun p => .nd (gT (trees ls es) p.1) (gT (trees ls es) p.2)
def wid : Lvs → Ends3 → Nat
  | [], es => es.length
  | ps :: _, _ => ps.length
theorem trees_len (ls : Lvs) (es : Ends3) : (trees ls es).length = wid ls es := by cases ls <;> simp [trees, wid]
/-- each child is there -/
def okT : Lvs → Ends3 → Prop
  | [], _ => True
  | ps :: ls, es => (∀ p ∈ ps, p.1 < wid ls es ∧ p.2 < wid ls es) ∧ okT ls es
theorem okT.drop : ∀ {ls : Lvs} {es : Ends3} (i : Nat), okT ls es → okT (ls.drop i) es
  | _, _, 0, h => h
  | [], _, _ + 1, h => h
  | _ :: _, _, i + 1, h => okT.drop i h.2
theorem gT_get {T : List BT} {n : Nat} (h : n < T.length) : T[n]? = some (gT T n) := by unfold gT; rw [List.getD_eq_getElem?_getD, List.getElem?_eq_getElem h]; rfl
theorem gT_mem {T : List BT} {n : Nat} (h : n < T.length) : gT T n ∈ T := List.mem_of_getElem? (gT_get h)
theorem trees_full : ∀ {ls : Lvs} {es : Ends3}, okT ls es → ∀ t ∈ trees ls es, t.full ls.length
  | [], es, _, t, ht => by
    obtain ⟨o, _, rfl⟩ := List.mem_map.mp ht
    exact True.intro
  | ps :: ls, es, h, t, ht => by
    obtain ⟨p, hp, rfl⟩ := List.mem_map.mp ht
    have ih := trees_full h.2
    obtain ⟨h1, h2⟩ := h.1 p hp
    rw [← trees_len] at h1 h2
    exact ⟨ih _ (gT_mem h1), ih _ (gT_mem h2)⟩
def cls : Lvs → Ends3 → List (List Nat)
  | [], es => [num (trees [] es)]
  | ps :: ls, es => num (trees (ps :: ls) es) :: cls ls es
/-- the least table of trees -/
def chl (F : List BT) : List BT := F.flatMap fun t => [t.l, t.r]
def rowF (F : List BT) : List (Nat × Nat) := F.map fun t => (ixF (dst (chl F)) t.l, ixF (dst (chl F)) t.r)
def lvF : Nat → List BT → List BT
  | 0, F => F
  | i + 1, F => lvF i (dst (chl F))
def canL : Nat → List BT → Lvs
  | 0, _ => []
  | m + 1, F => rowF F :: canL m (dst (chl F))
def canE (m : Nat) (F : List BT) : Ends3 := (lvF m F).map BT.val
theorem lvF_succ : ∀ (i : Nat) (F : List BT), lvF (i + 1) F = dst (chl (lvF i F))
  | 0, _ => rfl
  | i + 1, F => by show lvF (i + 1) (dst (chl F)) = _; rw [lvF_succ i]; rfl
theorem drop_cons {ls : Lvs} {i : Nat} {ps : List (Nat × Nat)} (h : ls[i]? = some ps) : ls.drop i = ps :: ls.drop (i + 1) := by
  obtain ⟨g1, g2⟩ := List.getElem?_eq_some_iff.mp h
  rw [List.drop_eq_getElem_cons g1, g2]
theorem lvF_nd {F : List BT} (hF : F.Nodup) : ∀ i, (lvF i F).Nodup
  | 0 => hF
  | i + 1 => by rw [lvF_succ]; exact dst_nd
theorem nd_len {κ : Type} [DecidableEq κ] : ∀ {xs ys : List κ}, xs.Nodup → (∀ x ∈ xs, x ∈ ys) → xs.length ≤ ys.length
  | [], _, _, _ => Nat.zero_le _
  | x :: xs, ys, nd, h => by
    have hx := h x List.mem_cons_self
    have nd' := List.nodup_cons.mp nd
    have := nd_len (xs := xs) (ys := ys.erase x) nd'.2 fun y hy => (List.mem_erase_of_ne (fun e => nd'.1 (by rw [← e]; exact hy))).mpr (h y (List.mem_cons_of_mem _ hy))
    rw [List.length_erase_of_mem hx] at this
    have : 0 < ys.length := List.length_pos_of_mem hx
    rw [List.length_cons]; omega
end S
namespace S
open PySem PySem.Spec PyProof.Rows L2
end S
-- fn: numbered_once
-- law: k49
-- dX: seen
-- deps: Lay
namespace S
open PySem PySem.Spec PyProof.Rows L2
section
variable {κ : Type} [DecidableEq κ]
end
section
variable {K : Frag} {E : XK} {Q : VK} {κ : Type} [DecidableEq κ]
end
end S
-- deps: Lc D0 D1
/-! ## comprehensions of any kind over a sequence whose items are told by a relation -/
namespace S
open PySem PySem.Spec PyProof.Rows L2
theorem lcg_at {α β : Type} {R : α → β → Prop} : ∀ {as : List α} {bs : List β} {i : Nat} {b : β}, Paired R as bs → bs[i]? = some b → ∃ a, as[i]? = some a ∧ R a b
  | _, _, _, _, .nil, h => by simp at h
  | _, _, 0, _, .cons r _, h => by simp at h; subst h; exact ⟨_, rfl, r⟩
  | _, _, i + 1, _, .cons _ t, h => by
    rw [List.getElem?_cons_succ] at h
    obtain ⟨a, h1, h2⟩ := lcg_at t h
    exact ⟨a, by rw [List.getElem?_cons_succ]; exact h1, h2⟩
theorem tkg_filter {α : Type} {cs : List α} {pr : α → Bool} {i : Nat} {c : α} (hc : cs[i]? = some c) : (cs.take (i + 1)).filter pr = (cs.take i).filter pr ++ (if pr c = true then [c] else []) := by
  rw [List.take_succ, hc, List.filter_append]
  congr 1
  show [c].filter pr = _
  by_cases e : pr c = true <;> simp [e]
theorem lc_gen {α : Type} {K : Frag} {p : Addr} {xs : List V} {g : TG} {tt : TT} {te : TE} {vs : List Nat} {σ : L2.St} {H1 : Hp} {Q : VK} (as : List α) (pr : α → Bool) (P : α → V → Prop) (R : Addr → α → V → Hp → Prop) (hx : SqA K H1 p xs) (hb : Paired P as xs) (hz : as.length < sizeLine)
    (mono : ∀ D a y H H' l, H D = some (.lst l) → R D a y H → SameX D H H' → R D a y H')
    (hs : ∀ (D : Addr) (l : List V) (a : α) (x : V) (H : Hp) (A : V → Hp → Prop) (B : Hp → Prop), H1 D = none → H D = some (.lst l) → a ∈ as → P a x → Same H1 H → (∀ y H', Same H H' → pr a = true → R D a y H' → A y H') → (∀ H', Same H H' → pr a = false → B H') →
      g x (wipe σ vs) H fun σ2 H2 => wipe σ2 vs = wipe σ vs ∧ tt σ2 H2 fun b H3 => if b = true then te σ2 H3 A else B H3)
    (hd : ∀ D ys H', H1 D = none → H' D = some (.lst ys) → Paired (fun a y => R D a y H') (as.filter pr) ys → Same H1 H' → Q (.ref D) H') :
    Walk K H1 p (Wr (LcGo g tt te vs σ Q)) := by
  have lz := hb.length
  refine lc_seq hx fun D hD => ⟨fun j H => ∃ ys, H D = some (.lst ys) ∧ Paired (fun a y => R D a y H) ((as.take j).filter pr) ys ∧ Same H1 H, ⟨[], upd_same, by rw [List.take_zero]; exact .nil, same_new hD⟩, fun i H _ ⟨_, _, _, e⟩ ys => ⟨e.seq, Same.tup e⟩, ?_, fun H ⟨ys, h1, h2, e⟩ => hd D ys H hD h1 (by rw [← lz, List.take_length] at h2; exact h2) e⟩
  rintro j x H hi ⟨ys, h1, h2, e⟩
  obtain ⟨a, hj, hP⟩ := lcg_at hb hi
  have hil : j < as.length := (List.getElem?_eq_some_iff.mp hj).1
  have hlen : ys.length ≤ j := by
    rw [← h2.length]
    exact Nat.le_trans (List.length_filter_le _ _) (by rw [List.length_take]; exact Nat.min_le_left _ _)
  refine hs D ys a x H _ _ hD h1 (List.mem_of_getElem? hj) hP e (fun y H' e2 hp r => ?_) fun H' e2 hp => ⟨ys, e2 _ _ h1, ?_, e.trans e2⟩
  · have si : SameX D H' (L2.upd H' D (.lst (ys ++ [y]))) := SameX.upd
    refine ⟨ys, e2 _ _ h1, by omega, ys ++ [y], upd_same, ?_, fun b o hb => ?_⟩
    · rw [tkg_filter hj, if_pos hp]
      exact Paired.snoc (Paired.mapP h2 fun a b r => mono _ _ _ _ _ _ h1 r (Same.thenX e2 si)) (mono _ _ _ _ _ _ (e2 _ _ h1) r si)
    · rw [upd_ne (ne_of_none hb hD)]
      exact e2 _ _ (e _ _ hb)
  · rw [tkg_filter hj, if_neg (by rw [hp]; exact Bool.false_ne_true), List.append_nil]
    exact Paired.mapP h2 fun a b r => mono _ _ _ _ _ _ h1 r (Same.x e2)
end S
-- deps: numbered_once Lcg
/-! ## tables on the heap -/
namespace S
open PySem PySem.Spec PyProof.Rows L2
def RowT (K : Frag) (H : Hp) (t : Addr) (p : Nat × Nat) : Prop := SqT K H t [.int (p.1 : Int), .int (p.2 : Int)]
/-- a level: a list or a tuple of pairs (u: a tuple) -/
def LvG (u : Bool) (K : Frag) (H : Hp) (a : Addr) (ps : List (Nat × Nat)) : Prop := ∃ ts : List Addr, (if u then SqT K H a (ts.map V.ref) else SqA K H a (ts.map V.ref)) ∧ Paired (RowT K H) ts ps
/-- a table's levels -/
def TbG (u : Bool) (K : Frag) (H : Hp) (p : Addr) (ls : Lvs) : Prop := ∃ xs : List Addr, (if u then SqT K H p (xs.map V.ref) else SqA K H p (xs.map V.ref)) ∧ Paired (LvG u K H) xs ls
section
variable {K : Frag} {H H' : Hp} {u : Bool}
theorem RowT.same {t : Addr} {p : Nat × Nat} (h : RowT K H t p) (e : Same H H') : RowT K H' t p := Same.tup e h
theorem LvG.same {a : Addr} {ps : List (Nat × Nat)} (h : LvG u K H a ps) (e : Same H H') : LvG u K H' a ps := by
  obtain ⟨ts, h1, h2⟩ := h
  refine ⟨ts, ?_, Paired.mapP h2 fun _ _ r => RowT.same r e⟩
  cases u
  · exact Same.sqa e h1
  · exact Same.tup e h1
theorem TbG.same {p : Addr} {ls : Lvs} (h : TbG u K H p ls) (e : Same H H') : TbG u K H' p ls := by
  obtain ⟨ts, h1, h2⟩ := h
  refine ⟨ts, ?_, Paired.mapP h2 fun _ _ r => LvG.same r e⟩
  cases u
  · exact Same.sqa e h1
  · exact Same.tup e h1
end
end S
namespace S
open PySem PySem.Spec PyProof.Rows L2
end S
-- fn: Bitmap.runs
-- law: k08
-- deps: Bm _law_in
namespace S
open PySem PySem.Spec PyProof.Rows L2
def runsP (n : Int) : List Int → List (Int × Int)
  | [] => []
  | [a] => [(a, n)]
  | a :: b :: r => (a, b) :: runsP n r
def stepR (st : Option Int × List (Int × Int)) (e : Int) : Option Int × List (Int × Int) := match st.1 with
  | none => (some e, st.2)
  | some s => (none, st.2 ++ [(s, e)])
theorem stepR_runs (n : Int) : ∀ (es : List Int) (acc : List (Int × Int)), (match (es.foldl stepR (none, acc)).1 with | none => (es.foldl stepR (none, acc)).2 | some s => (es.foldl stepR (none, acc)).2 ++ [(s, n)]) = acc ++ runsP n es
  | [], acc => (List.append_nil acc).symm
  | [a], acc => rfl
  | a :: b :: r, acc => by
    have ih := stepR_runs n r (acc ++ [(a, b)])
    rw [List.append_assoc] at ih
    exact ih
theorem stepR_len : ∀ (es : List Int) (o : Option Int) (acc : List (Int × Int)), (es.foldl stepR (o, acc)).2.length ≤ acc.length + es.length
  | [], _, _ => Nat.le_refl _
  | e :: r, none, acc => by have := stepR_len r (some e) acc; show (r.foldl stepR (some e, acc)).2.length ≤ _; rw [List.length_cons]; omega
  | e :: r, some s, acc => by have := stepR_len r none (acc ++ [(s, e)]); show (r.foldl stepR (none, acc ++ [(s, e)])).2.length ≤ _; rw [List.length_append] at this; rw [List.length_cons]; simp at this; omega
def vOI (o : Option Int) : V := match o with
  | none => .non
  | some i => .int i
end S
-- deps: Cx Bitmap_runs
/-! ## == of lists of tuples of numbers and None -/
namespace S
open PySem PySem.Spec PyProof.Rows L2
end S
-- deps: Tbl Dat
/-! ## == of tables -/
namespace S
open PySem PySem.Spec PyProof.Rows L2
section
variable {K : Frag} {H H' : Hp} {u : Bool}
end
end S
-- deps: Eqt
/-! ## x in a list or a tuple: answers, pairs of numbers -/
namespace S
open PySem PySem.Spec PyProof.Rows L2
theorem cut_take {xs : List V} {i : Nat} : cutV xs none (some (i : Int)) = xs.take i := by
  unfold cutV
  rw [HT.sIx_nat, HT.sIx_none, Nat.sub_zero, List.drop_zero]
  by_cases hk : i ≤ xs.length
  · rw [Nat.min_eq_left hk]
  · rw [Nat.min_eq_right (by omega), List.take_of_length_le (Nat.le_refl _), List.take_of_length_le (by omega)]
section
variable {K : Frag} {H : Hp}
end
end S
-- deps: D0 D1
/-! ## comprehensions over range(lo, hi); over a list, drawn -/
namespace S
open PySem PySem.Spec PyProof.Rows L2
theorem lc_itr {lo : Int} {m i : Nat} {te : TE} {vs : List Nat} {σ : L2.St} {H1 : Hp} {Q : VK} (R : Addr → Nat → V → Hp → Prop) (hz : m < sizeLine)
    (mono : ∀ D j y H H' l, H D = some (.lst l) → R D j y H → SameX D H H' → R D j y H')
    (hs : ∀ (D : Addr) (l : List V) (j : Nat) (H : Hp) (A : V → Hp → Prop), H1 D = none → H D = some (.lst l) → j < m → Same H1 H → (∀ y H', Same H H' → R D j y H' → A y H') → wipe ((wipe σ vs).set i (some (.int (lo + j)))) vs = wipe σ vs ∧ te ((wipe σ vs).set i (some (.int (lo + j)))) H A)
    (hd : ∀ D ys H', H1 D = none → H' D = some (.lst ys) → ys.length = m → (∀ j y, ys[j]? = some y → R D j y H') → Same H1 H' → Q (.ref D) H') :
    Wr (LcGo (gName i) tYes te vs σ Q) (Itr lo m) H1 := by
  refine ⟨fun D hD => ?_⟩
  refine lc_range (lo := lo) (Qd := fun H => Q (.ref D) H) (fun j H => ∃ ys, H D = some (.lst ys) ∧ ys.length = j ∧ (∀ k y, ys[k]? = some y → R D k y H) ∧ Same H1 H) ⟨[], upd_same, rfl, fun k y h => by simp at h, same_new hD⟩ ?_ ?_
  · rintro j H hj ⟨ys, h1, h2, h3, e⟩
    obtain ⟨w, q⟩ := hs D ys j H (fun y H4 => ∃ acc, H4 D = some (.lst acc) ∧ acc.length < sizeLine ∧ ∃ ys, upd H4 D (.lst (acc ++ [y])) D = some (.lst ys) ∧ ys.length = j + 1 ∧ (∀ k y', ys[k]? = some y' → R D k y' (upd H4 D (.lst (acc ++ [y])))) ∧ Same H1 (upd H4 D (.lst (acc ++ [y])))) hD h1 hj e fun y H' e2 r => by
      have si : SameX D H' (L2.upd H' D (.lst (ys ++ [y]))) := SameX.upd
      refine ⟨ys, e2 _ _ h1, by omega, ys ++ [y], upd_same, by rw [List.length_append, List.length_singleton, h2], fun k y' hk => ?_, fun b o hb => ?_⟩
      · by_cases hkj : k < ys.length
        · rw [List.getElem?_append_left hkj] at hk
          exact mono _ _ _ _ _ _ h1 (h3 k y' hk) (Same.thenX e2 si)
        · have hk2 : k < ys.length + 1 := by
            obtain ⟨h, _⟩ := List.getElem?_eq_some_iff.mp hk
            rw [List.length_append, List.length_singleton] at h; exact h
          have ek : k = j := by omega
          subst ek
          rw [List.getElem?_append_right (by omega), h2, Nat.sub_self] at hk
          have ey : y = y' := by simpa using hk
          rw [← ey]
          exact mono _ _ _ _ _ _ (e2 _ _ h1) r si
      · rw [upd_ne (ne_of_none hb hD)]
        exact e2 _ _ (e _ _ hb)
    show gName i (.int (lo + (j : Int))) (wipe σ vs) H _
    refine ⟨w, ?_⟩
    unfold tYes
    dsimp only
    rw [if_pos rfl]
    exact q
  · rintro H ⟨ys, h1, h2, h3, e⟩
    exact hd D ys H hD h1 h2 h3 e
/-- over a list that stays, its items drawn -/
theorem lc_lstX {K : Frag} {a st p : Addr} {xs : List V} {i : Nat} {te : TE} {vs : List Nat} {σ : L2.St} {H1 : Hp} {Q : VK} (R : Addr → Nat → V → Hp → Prop) (hx : H1 p = some (.lst xs)) (pst : p ≠ st) (hz : xs.length < sizeLine) (c : Ctx K H1 a st)
    (mono : ∀ D j y H H' l, D ≠ st → H D = some (.lst l) → R D j y H → SameX D H H' → R D j y H') (monoX : ∀ D j y H H', H1 D = none → R D j y H → Ctx K H a st → SameX st H H' → R D j y H')
    (hs : ∀ (D : Addr) (l : List V) (j : Nat) (x : V) (H : Hp) (A : V → Hp → Prop), H1 D = none → H D = some (.lst l) → xs[j]? = some x → SameX st H1 H → Ctx K H a st → (∀ y H', SameX st H H' → Ctx K H' a st → R D j y H' → A y H') → wipe ((wipe σ vs).set i (some x)) vs = wipe σ vs ∧ te ((wipe σ vs).set i (some x)) H A)
    (hd : ∀ D ys H', H1 D = none → H' D = some (.lst ys) → ys.length = xs.length → (∀ j y, ys[j]? = some y → R D j y H') → SameX st H1 H' → Ctx K H' a st → Q (.ref D) H') :
    Walk K H1 p (Wr (LcGo (gName i) tYes te vs σ Q)) := by
  refine ⟨.inl ⟨⟨xs, SqL.of hx⟩, ⟨fun D hD => ?_⟩⟩⟩
  have dst := ctx_ne c hD
  have pD : p ≠ D := ne_of_none hx hD
  refine lc_list (Qd := fun H => Q (.ref D) H) (xs := xs) (fun j H => ∃ ys, H D = some (.lst ys) ∧ ys.length = j ∧ (∀ k y, ys[k]? = some y → R D k y H) ∧ SameX st H1 H ∧ Ctx K H a st) ⟨[], upd_same, rfl, fun k y h => by simp at h, Same.x (same_new hD), c.same (same_new hD)⟩ (fun j H hj ⟨_, _, _, _, e, _⟩ => SqL.of (e _ _ hx pst)) ?_ ?_
  · rintro j x H hj ⟨ys, h1, h2, h3, e, cc⟩
    have jl : j < xs.length := (List.getElem?_eq_some_iff.mp hj).1
    obtain ⟨w, q⟩ := hs D ys j x H (fun y H4 => ∃ acc, H4 D = some (.lst acc) ∧ acc.length < sizeLine ∧ ∃ ys, upd H4 D (.lst (acc ++ [y])) D = some (.lst ys) ∧ ys.length = j + 1 ∧ (∀ k y', ys[k]? = some y' → R D k y' (upd H4 D (.lst (acc ++ [y])))) ∧ SameX st H1 (upd H4 D (.lst (acc ++ [y]))) ∧ Ctx K (upd H4 D (.lst (acc ++ [y]))) a st) hD h1 hj e cc fun y H' e2 c2 r => by
      have si : SameX D H' (L2.upd H' D (.lst (ys ++ [y]))) := SameX.upd
      have hDH := e2 _ _ h1 dst
      refine ⟨ys, hDH, by omega, ys ++ [y], upd_same, by rw [List.length_append, List.length_singleton, h2], fun k y' hk => ?_, SameX.mut (e.trans e2) hD, c2.mut c hD⟩
      by_cases hkj : k < ys.length
      · rw [List.getElem?_append_left hkj] at hk
        exact mono _ _ _ _ _ _ dst hDH (monoX _ _ _ _ _ hD (h3 k y' hk) cc e2) si
      · have hk2 : k < ys.length + 1 := by
          obtain ⟨h, _⟩ := List.getElem?_eq_some_iff.mp hk
          rw [List.length_append, List.length_singleton] at h; exact h
        have ek : k = j := by omega
        subst ek
        rw [List.getElem?_append_right (by omega), h2, Nat.sub_self] at hk
        have ey : y = y' := by simpa using hk
        rw [← ey]
        exact mono _ _ _ _ _ _ dst hDH r si
    refine ⟨w, ?_⟩
    unfold tYes
    dsimp only
    rw [if_pos rfl]
    exact q
  · rintro H ⟨ys, h1, h2, h3, e, cc⟩
    exact hd D ys H hD h1 h2 h3 e cc
end S
-- deps: Lc D0
/-! ## comprehensions over range; stretches as lists -/
namespace S
open PySem PySem.Spec PyProof.Rows L2
theorem lc_rng {m i : Nat} {te : TE} {vs : List Nat} {σ : L2.St} {H1 : Hp} {Q : VK} (R : Addr → Nat → V → Hp → Prop) (hz : m < sizeLine)
    (mono : ∀ D j y H H' l, H D = some (.lst l) → R D j y H → SameX D H H' → R D j y H')
    (hs : ∀ (D : Addr) (l : List V) (j : Nat) (H : Hp) (A : V → Hp → Prop), H1 D = none → H D = some (.lst l) → j < m → Same H1 H → (∀ y H', Same H H' → R D j y H' → A y H') → wipe ((wipe σ vs).set i (some (.int j))) vs = wipe σ vs ∧ te ((wipe σ vs).set i (some (.int j))) H A)
    (hd : ∀ D ys H', H1 D = none → H' D = some (.lst ys) → ys.length = m → (∀ j y, ys[j]? = some y → R D j y H') → Same H1 H' → Q (.ref D) H') :
    Wr (LcGo (gName i) tYes te vs σ Q) (Itr 0 m) H1 := by
  refine ⟨fun D hD => ?_⟩
  refine lc_range (lo := 0) (Qd := fun H => Q (.ref D) H) (fun j H => ∃ ys, H D = some (.lst ys) ∧ ys.length = j ∧ (∀ k y, ys[k]? = some y → R D k y H) ∧ Same H1 H) ⟨[], upd_same, rfl, fun k y h => by simp at h, same_new hD⟩ ?_ ?_
  · rintro j H hj ⟨ys, h1, h2, h3, e⟩
    obtain ⟨w, q⟩ := hs D ys j H (fun y H4 => ∃ acc, H4 D = some (.lst acc) ∧ acc.length < sizeLine ∧ ∃ ys, upd H4 D (.lst (acc ++ [y])) D = some (.lst ys) ∧ ys.length = j + 1 ∧ (∀ k y', ys[k]? = some y' → R D k y' (upd H4 D (.lst (acc ++ [y])))) ∧ Same H1 (upd H4 D (.lst (acc ++ [y])))) hD h1 hj e fun y H' e2 r => by
      have si : SameX D H' (L2.upd H' D (.lst (ys ++ [y]))) := SameX.upd
      refine ⟨ys, e2 _ _ h1, by omega, ys ++ [y], upd_same, by rw [List.length_append, List.length_singleton, h2], fun k y' hk => ?_, fun b o hb => ?_⟩
      · by_cases hkj : k < ys.length
        · rw [List.getElem?_append_left hkj] at hk
          exact mono _ _ _ _ _ _ h1 (h3 k y' hk) (Same.thenX e2 si)
        · have hk2 : k < ys.length + 1 := by
            obtain ⟨h, _⟩ := List.getElem?_eq_some_iff.mp hk
            rw [List.length_append, List.length_singleton] at h; exact h
          have ek : k = j := by omega
          subst ek
          rw [List.getElem?_append_right (by omega), h2, Nat.sub_self] at hk
          have ey : y = y' := by simpa using hk
          rw [← ey]
          exact mono _ _ _ _ _ _ (e2 _ _ h1) r si
      · rw [upd_ne (ne_of_none hb hD)]
        exact e2 _ _ (e _ _ hb)
    show gName i (.int (0 + (j : Int))) (wipe σ vs) H _
    rw [Int.zero_add]
    refine ⟨w, ?_⟩
    unfold tYes
    dsimp only
    rw [if_pos rfl]
    exact q
  · rintro H ⟨ys, h1, h2, h3, e⟩
    exact hd D ys H hD h1 h2 h3 e
end S
-- deps: Schema_init D0 D1
/-! ## comprehensions over lists of pairs (a name, a number) -/
namespace S
open PySem PySem.Spec PyProof.Rows L2
end S
-- deps: Lc Cx
/-! ## comprehensions over tuples that make data -/
namespace S
open PySem PySem.Spec PyProof.Rows L2
end S
namespace S
open PySem PySem.Spec PyProof.Rows L2
def t__law_slices_b1 (K : Frag) (E : XK) : TS :=
    tAsg (tOp (oAdd K) (dVar 1) (dLc (iRngB (tCons (tUn uNeg (tC (.int 1))) (tCons (tOp (oIx K) (dVar 2) (tC (.int 1))) (tNil)))) (gName 3) (tYes) (dTupK (tCons (tOp (oIx K) (dVar 2) (tC (.int 0))) (tCons (dVar 3) (tNil)))) [3])) (gName 1)
def t__law_slices_2 (K : Frag) (E : XK) : TS :=
    tRet (dVar 1)
def t__law_slices_1 (K : Frag) (E : XK) : TS :=
    tSeq (dFor (iSeq K (dVar 0)) (gName 2) (t__law_slices_b1 K E))
    (stop (t__law_slices_2 K E))
def t__law_slices (K : Frag) (E : XK) : TS :=
    tSeq (tAsg (dLst (tNil)) (gName 1))
    (stop (t__law_slices_1 K E))
end S
-- fn: _law_slices
-- law: k43
-- tupK: yes
-- deps: Held Lri Fstay
namespace S
open PySem PySem.Spec PyProof.Rows L2
def sp__law_slices (K : Frag) : Sp := fun vs H Q _ => ∃ (p : Addr) (ys : List V) (cs : List Col), vs = [.ref p] ∧ H p = some (.lst ys) ∧ Cols K H ys cs ∧ cs.length ≤ 10 ∧ (∀ c ∈ cs, 1 ≤ c.2 ∧ c.2 ≤ 100) ∧ ∀ (d : Addr) (zs : List V) (H' : Hp), Same H H' → H d = none → H' d = some (.lst zs) → ColsK H' zs (slicesOf cs) → Q (.ref d) H'
theorem colsK_app {H : Hp} : ∀ {ys zs : List V} {cs ds : List Col}, ColsK H ys cs → ColsK H zs ds → ColsK H (ys ++ zs) (cs ++ ds)
  | _, _, _, _, .nil, h => h
  | _, _, _, _, .cons a t, h => .cons a (colsK_app t h)
theorem pure__law_slices {K : Frag} (vs : List V) (H : Hp) (Q : VK) (E : XK) (h : sp__law_slices K vs H Q E) : t__law_slices K E { nx := fun _ H' => Q .non H', rt := Q } (start ["_law_columns_here", "_law_slices_here", "_law_column", "_law_place"] vs) H := by
  obtain ⟨p, ys, cs, rfl, hp, hC, lcs, wd, q⟩ := h
  walk_at "gx"
  refine ⟨fun d nd => ?_⟩
  have e0 := same_new (o := .lst ([] : List V)) nd
  have hd : upd H d (.lst ([] : List V)) d = some (.lst []) := upd_same
  generalize upd H d (.lst ([] : List V)) = H1 at *
  walk_at "gx"
  refine for_seq0 (K := K) (H0 := H) (fun i σ W => ∃ (l : Addr) (zs : List V) (x2 x3 : Option V), σ = [some (.ref p), some (.ref l), x2, x3] ∧ Same H W ∧ H l = none ∧ W l = some (.lst zs) ∧ ColsK W zs (slicesOf (cs.take i))) (.inl (SqL.of hp)) e0 ⟨d, [], _, _, rfl, e0, nd, hd, by rw [List.take_zero]; exact .nil⟩ (fun i σ W ⟨_, _, _, _, _, e, _⟩ => e) ?_ ?_
  · rintro i v σ W hi ⟨l, zs, x2, x3, rfl, e, nl, hl, hz⟩
    obtain ⟨c, hc, a, rfl, ha⟩ := cols_at hC hi
    have ha := Same.tup e ha
    have hcm := List.mem_of_getElem? hc
    have hcw := wd c hcm
    have tk : cs.take (i + 1) = cs.take i ++ [c] := by rw [List.take_add_one, hc]; rfl
    have lt := slicesOf_len (cs.take i) fun d hd => by have := wd d (List.mem_of_mem_take hd); omega
    have lt2 : (cs.take i).length ≤ 10 := by rw [List.length_take]; omega
    have lz := Paired.length hz
    walk_at "gx"
    have en : (c.2 - -1).toNat = (c.2 + 1).toNat := by omega
    show Wr _ (Itr (-1) (c.2 - -1).toNat) W
    rw [en]
    refine lc_itr (lo := -1) (fun D j y W' => ColK W' (c.1, -1 + (j : Int)) y) (by rw [sizeLine_eq]; omega) (fun D j y W1 W2 l hl h e => by
      obtain ⟨a, ea, ha⟩ := h
      exact ⟨a, ea, e _ _ ha (fun z => by subst z; rw [hl] at ha; cases ha)⟩) ?_ ?_
    · intro D l0 j W' A nD hl0 hj e1 hA
      have ha := Same.tup e1 ha
      refine ⟨rfl, ?_⟩
      walk_at "gx"
      refine ⟨fun t nt => ?_⟩
      exact hA _ _ (same_new nt) ⟨t, rfl, upd_same⟩
    · intro D ws W1 nD hD lw hw e1
      have hl1 := e1 _ _ hl
      have hws : ColsK W1 ws (slicesC c (c.2 + 1).toNat) := by
        have gen : ∀ (k : Nat) (ws : List V), ws.length = k → (∀ (j : Nat) (y : V), ws[j]? = some y → ColK W1 (c.1, -1 + (j : Int)) y) → ColsK W1 ws (slicesC c k) := fun k => by
          induction k with
          | zero => intro ws l _; rw [List.eq_nil_of_length_eq_zero l]; exact .nil
          | succ k ih =>
            intro ws l h
            obtain ⟨ws0, y, rfl⟩ : ∃ ws0 y, ws = ws0 ++ [y] := by
              rcases List.eq_nil_or_concat ws with e | ⟨L, b, e⟩
              · rw [e] at l; cases l
              · exact ⟨L, b, by rw [e, List.concat_eq_append]⟩
            have l0 : ws0.length = k := by rw [List.length_append] at l; simpa using l
            rw [slicesC_succ]
            refine colsK_snoc (ih ws0 l0 fun j y' hj => ?_) ?_
            · have := (List.getElem?_eq_some_iff.mp hj).1
              exact h j y' (by rw [List.getElem?_append_left this]; exact hj)
            · have := h k y (by rw [List.getElem?_append_right (by omega), l0, Nat.sub_self]; rfl)
              exact this
        exact gen _ ws lw hw
      refine Cat.l hl1 hD (by rw [sizeLine_eq, lw]; omega) fun m nm => ?_
      have e2 := same_new (o := .lst (zs ++ ws)) nm
      refine ⟨m, zs ++ ws, _, _, rfl, (e.trans e1).trans e2, (by cases h : H m with | none => rfl | some o => rw [(e.trans e1) _ _ h] at nm; cases nm), upd_same, ?_⟩
      rw [tk, slicesOf_snoc]
      exact colsK_app ((hz.same e1).same e2) (hws.same e2)
  · rintro σ W ⟨l, zs, x2, x3, rfl, e, nl, hl, hz⟩
    have ly : ys.length = cs.length := (Paired.length hC).symm
    rw [ly, List.take_length] at hz
    walk_at "gx"
    exact q l zs W e nl hl hz
end S
-- deps: Lcg
/-! ## filtered comprehensions over lists told by pairs -/
namespace S
open PySem PySem.Spec PyProof.Rows L2
/-! ### chosen pieces -/
end S
namespace S
open PySem PySem.Spec PyProof.Rows L2
end S
-- fn: _law_order
-- law: k55
-- lst: yes
-- deps: _law_draw _law_slices_k43 Lsel Li Lay
namespace S
open PySem PySem.Spec PyProof.Rows L2
end S
-- deps: D0 D1
/-! ## terms: lists of a name and a number, dicts of them, their sorted form -/
namespace S
open PySem PySem.Spec PyProof.Rows L2
def leS (x y : Str) : Prop := x.cps.toList ≤ y.cps.toList
theorem leS_total (x y : Str) : leS x y ∨ leS y x := List.le_total _ _
theorem leS_trans {x y z : Str} (h : leS x y) (g : leS y z) : leS x z := List.le_trans h g
theorem strX {x y : Str} (h : x.cps.toList = y.cps.toList) : x = y := by
  cases x; cases y
  congr 1
  exact Array.toList_inj.mp h
theorem leS_anti {x y : Str} (h : leS x y) (g : leS y x) : x = y := strX (List.le_antisymm h g)
theorem permS : ∀ {as bs : List Str}, as.Perm bs → as.Pairwise leS → bs.Pairwise leS → as = bs
  | [], bs, h, _, _ => h.nil_eq
  | a :: as, [], h, _, _ => by have := h.length_eq; rw [List.length_cons, List.length_nil] at this; omega
  | a :: as, b :: bs, h, ha, hb => by
    have h1 : a ∈ b :: bs := h.mem_iff.mp (List.mem_cons_self ..)
    have h2 : b ∈ a :: as := h.mem_iff.mpr (List.mem_cons_self ..)
    have e : a = b := by
      rcases List.mem_cons.mp h1 with h1 | h1
      · exact h1
      · rcases List.mem_cons.mp h2 with h2 | h2
        · exact h2.symm
        · exact leS_anti ((List.pairwise_cons.mp ha).1 b h2) ((List.pairwise_cons.mp hb).1 a h1)
    subst e
    rw [permS (List.perm_cons a |>.mp h) (List.pairwise_cons.mp ha).2 (List.pairwise_cons.mp hb).2]
abbrev Tms : Type := List (Str × Int)
def nmT (T : Tms) : List Str := T.map fun t => t.1
def lkT : Tms → Str → Option Int
  | [], _ => none
  | t :: T, z => if t.1 = z then some t.2 else lkT T z
theorem lkT_none {z : Str} : ∀ {T : Tms}, z ∉ nmT T → lkT T z = none
  | [], _ => rfl
  | t :: T, h => by
    show (if t.1 = z then some t.2 else lkT T z) = none
    rw [if_neg fun e => h (by rw [← e]; exact List.mem_cons_self ..)]
    exact lkT_none fun hm => h (List.mem_cons_of_mem _ hm)
theorem lkT_mem : ∀ {T : Tms} {t : Str × Int}, (nmT T).Nodup → t ∈ T → lkT T t.1 = some t.2
  | t0 :: T, t, nd, h => by
    obtain ⟨h1, h2⟩ := List.pairwise_cons.mp nd
    show (if t0.1 = t.1 then some t0.2 else lkT T t.1) = _
    rcases List.mem_cons.mp h with rfl | h
    · rw [if_pos rfl]
    · rw [if_neg (h1 t.1 (List.mem_map.mpr ⟨t, h, rfl⟩))]
      exact lkT_mem h2 h
theorem lkT_some {z : Str} {c : Int} : ∀ {T : Tms}, lkT T z = some c → (z, c) ∈ T
  | t :: T, h => by
    have h : (if t.1 = z then some t.2 else lkT T z) = some c := h
    by_cases e : t.1 = z
    · rw [if_pos e] at h
      injection h with h
      rw [← e, ← h]; exact List.mem_cons_self ..
    · rw [if_neg e] at h
      exact List.mem_cons_of_mem _ (lkT_some h)
theorem lkT_no {z : Str} : ∀ {T : Tms}, lkT T z = none → z ∉ nmT T
  | [], _, h => nomatch h
  | t :: T, e, h => by
    have e : (if t.1 = z then some t.2 else lkT T z) = none := e
    by_cases g : t.1 = z
    · rw [if_pos g] at e; cases e
    · rw [if_neg g] at e
      rcases List.mem_cons.mp h with h | h
      · exact g h.symm
      · exact lkT_no e h
theorem lkT_is {z : Str} {T : Tms} : (lkT T z).isSome = true ↔ z ∈ nmT T := by
  constructor
  · intro h
    obtain ⟨c, hc⟩ := Option.isSome_iff_exists.mp h
    exact List.mem_map.mpr ⟨_, lkT_some hc, rfl⟩
  · intro h
    cases e : lkT T z with
    | some c => rfl
    | none => exact absurd h (lkT_no e)
structure SoT (T : Tms) : Prop where
  nd : (nmT T).Nodup
  st : (nmT T).Pairwise leS
theorem tms_of {T : Tms} (nd : (nmT T).Nodup) : T = (nmT T).map fun z => (z, (lkT T z).getD 0) := by
  have h : ∀ U : Tms, (∀ t ∈ U, lkT T t.1 = some t.2) → U = (nmT U).map fun z => (z, (lkT T z).getD 0) := fun U => by
    induction U with
    | nil => intro _; rfl
    | cons t U ih =>
      intro h
      show t :: U = (t.1, (lkT T t.1).getD 0) :: _
      rw [h t (List.mem_cons_self ..)]
      congr 1
      exact ih fun u hu => h u (List.mem_cons_of_mem _ hu)
  exact h T fun t ht => lkT_mem nd ht
theorem srt_ext {T U : Tms} (h : SoT T) (g : SoT U) (e : ∀ z, lkT T z = lkT U z) : T = U := by
  have hp : (nmT T).Perm (nmT U) := (List.perm_ext_iff_of_nodup h.nd g.nd).mpr fun z => by rw [← lkT_is, ← lkT_is, e]
  have hn := permS hp h.st g.st
  refine (tms_of h.nd).trans (Eq.trans ?_ (tms_of g.nd).symm)
  rw [hn]
  exact List.map_congr_left fun z _ => by rw [e]
/-! ### dicts -/
end S
-- deps: Fmm Cols
/-! ## terms: added, multiplied, read step by step -/
namespace S
open PySem PySem.Spec PyProof.Rows L2
end S
-- deps: Cols Fm2
/-! ## steps of a recipe for a question, as tuples on the heap -/
namespace S
open PySem PySem.Spec PyProof.Rows L2
inductive Stp where
  | and | or | not | sure | twice
  | prs (z : Str)
  | bit (z : Str) (p : Int)
  | atm (T : Tms) (b : Int)
/-- the step at a; a list of its own was not there at H0 -/
def StA (K : Frag) (H0 H : Hp) (a : Addr) : Stp → Prop
  | .and => SqT K H a [.str "and"]
  | .or => SqT K H a [.str "or"]
  | .not => SqT K H a [.str "not"]
  | .sure => SqT K H a [.str "sure"]
  | .twice => SqT K H a [.str "twice"]
  | .prs z => SqT K H a [.str "present", .str z]
  | .bit z p => SqT K H a [.str "bit", .str z, .int p]
  | .atm T b => ∃ l ys, SqT K H a [.str "atmost", .ref l, .int b] ∧ H0 l = none ∧ H l = some (.lst ys) ∧ Cols K H ys T
/-- a step that is a question without parts, over the names L -/
def Stp.leaf (L : List Str) : Stp → Prop
  | .prs z => z ∈ L
  | .bit z p => z ∈ L ∧ 0 ≤ p ∧ p ≤ 1000
  | .atm T b => (nmT T).Nodup ∧ (∀ z ∈ nmT T, z ∈ L) ∧ (∀ t ∈ T, -4 ≤ t.2 ∧ t.2 ≤ 4) ∧ widI b ≤ 200
  | _ => False
theorem StA.same {K : Frag} {H0 H H' : Hp} {a : Addr} {s : Stp} (h : StA K H0 H a s) (e : Same H H') : StA K H0 H' a s := by
  cases s <;> first | exact Same.tup e h | (obtain ⟨l, ys, h1, h0, h2, h3⟩ := h; exact ⟨l, ys, Same.tup e h1, h0, e _ _ h2, h3.same e⟩)
/-- a store on a list that was there -/
theorem StA.x {K : Frag} {H0 H H' : Hp} {a st : Addr} {s : Stp} {l0 : List V} {o : HO} (h : StA K H0 H a s) (e : SameX st H H') (hst : H st = some (.lst l0)) (h0 : H0 st = some o) : StA K H0 H' a s := by
  cases s <;> first | exact e.tup h hst | (obtain ⟨l, ys, h1, hl, h2, h3⟩ := h; exact ⟨l, ys, e.tup h1 hst, hl, e _ _ h2 (Ne.symm (ne_of_none h0 hl)), h3.x e hst⟩)
end S
namespace S
open PySem PySem.Spec PyProof.Rows L2
end S
-- fn: _law_leaf
-- law: k41
-- deps: Stp Fstay Nm _law_number _law_draw _law_value Tw
namespace S
open PySem PySem.Spec PyProof.Rows L2
end S
-- deps: Fmm
/-! ## rows: dicts of a name and a number or None -/
namespace S
open PySem PySem.Spec PyProof.Rows L2
abbrev Row : Type := List (Str × Option Int)
def lkR : Row → Str → Option (Option Int)
  | [], _ => none
  | t :: T, z => if t.1 = z then some t.2 else lkR T z
/-- the value of a form in a row -/
def valT (R : Row) : Tms → Int → Option Int
  | [], w => some w
  | t :: T, w => match lkR R t.1 with
    | some (some c) => valT R T (w + t.2 * c)
    | _ => none
end S
namespace S
open PySem PySem.Spec PyProof.Rows L2
end S
-- fn: Form.__init__
-- law: k38
-- dict: terms
-- sortD: yes
-- tupF: yes
-- deps: Fmm Cols Bm D0 D1
namespace S
open PySem PySem.Spec PyProof.Rows L2
theorem Cols.o {K : Frag} {H H' : Hp} {x dx C : Addr} {vs : List (Option V)} {ys : List V} {cs : List Col} (h : Cols K H ys cs) (e : SameO x dx H H') (hx : SlX.Slt H x C dx vs) (hy : ∀ o, H dx = some o → (∀ ys, o ≠ .tup ys) ∧ ∀ u w, o ≠ .frz u w) : Cols K H' ys cs := Paired.mapP h fun _ _ ⟨a, h1, h2⟩ => ⟨a, h1, e.tup hx hy h2⟩
theorem TupF.o {H H' : Hp} {x dx C a : Addr} {vs : List (Option V)} {xs : List V} (h : TupF H a xs) (e : SameO x dx H H') (hx : SlX.Slt H x C dx vs) (hy : ∀ o, H dx = some o → (∀ ys, o ≠ .tup ys) ∧ ∀ u w, o ≠ .frz u w) : TupF H' a xs := by
  obtain ⟨o, h1, h2⟩ := h
  refine ⟨o, e _ _ h1 (fun z => ?_) (fun z => (hy _ (z ▸ h1)).2 _ _ rfl), h2⟩
  subst z
  rcases hx with ⟨h, _⟩ | ⟨h, _⟩
  · rw [h1] at h; cases h
  · rw [h1] at h; exact SlX_frz (Option.some.inj h).symm
where SlX_frz {a C dx : Addr} {vs : List (Option V)} {o : Obj} {u : HO} : SlX.SlO a C dx vs ≠ .frz o u := slO_frz
def trmT (D : Tms) (L : List Str) : Tms := L.map fun z => (z, (lkT D z).getD 0)
theorem trmT_nm (D : Tms) (L : List Str) : nmT (trmT D L) = L := by
  unfold nmT trmT
  rw [List.map_map]
  exact List.map_id' L
theorem trmT_lk (D : Tms) {z : Str} : ∀ L : List Str, lkT (trmT D L) z = if z ∈ L then some ((lkT D z).getD 0) else none
  | [] => rfl
  | y :: L => by
    have ih := trmT_lk D (z := z) L
    show (if y = z then some ((lkT D y).getD 0) else lkT (trmT D L) z) = _
    by_cases e : y = z
    · rw [if_pos e, e, if_pos (List.mem_cons_self ..)]
    · rw [if_neg e, ih]
      by_cases h : z ∈ L
      · rw [if_pos h, if_pos (List.mem_cons_of_mem _ h)]
      · rw [if_neg h, if_neg (fun g => (List.mem_cons.mp g).elim (fun g => e g.symm) h)]
end S
-- deps: Rw Fm2 CsT Form_init
/-! ## questions: what they ask, how they lie on the heap -/
namespace S
open PySem PySem.Spec PyProof.Rows L2
inductive Qs where
  | atm (T : Tms) (b : Int)
  | prs (z : Str)
  | bit (z : Str) (p : Int)
  | both (q r : Qs)
  | eith (q r : Qs)
  | opp (q : Qs)
  | sure (q : Qs)
def Qs.cls : Qs → Str
  | .atm _ _ => "AtMost"
  | .prs _ => "Present"
  | .bit _ _ => "HasBit"
  | .both _ _ => "Both"
  | .eith _ _ => "Either"
  | .opp _ => "Opposite"
  | .sure _ => "Surely"
def Qs.dep : Qs → Nat
  | .both q r => max q.dep r.dep + 1
  | .eith q r => max q.dep r.dep + 1
  | .opp q => q.dep + 1
  | .sure q => q.dep + 1
  | _ => 1
/-- the names that it asks -/
def Qs.has : Qs → Str → Prop
  | .atm T _, z => z ∈ nmT T
  | .prs y, z => z = y
  | .bit y _, z => z = y
  | .both q r, z => q.has z ∨ r.has z
  | .eith q r, z => q.has z ∨ r.has z
  | .opp q, z => q.has z
  | .sure q, z => q.has z
/-- the places that it asks lie from 0 to 1000 -/
def Qs.plc : Qs → Prop
  | .bit _ p => 0 ≤ p ∧ p ≤ 1000
  | .both q r => q.plc ∧ r.plc
  | .eith q r => q.plc ∧ r.plc
  | .opp q => q.plc
  | .sure q => q.plc
  | _ => True
def rk : Option Bool → Nat
  | none => 1
  | some true => 2
  | some false => 0
def unrk : Nat → Option Bool
  | 0 => some false
  | 1 => none
  | _ => some true
def ansB (q r : Option Bool) : Option Bool := unrk (min (rk q) (rk r))
def ansE (q r : Option Bool) : Option Bool := unrk (max (rk q) (rk r))
def ansO (q : Option Bool) : Option Bool := unrk (2 - rk q)
def ansS (q : Option Bool) : Option Bool := some (decide (q = some true))
/-- what it answers of a row -/
def ans (R : Row) : Qs → Option Bool
  | .atm T b => (valT R T 0).map fun v => decide (v ≤ b)
  | .prs z => some (match lkR R z with | some (some _) => true | _ => false)
  | .bit z p => (match lkR R z with
    | some (some v) => some (decide ((v / 2 ^ p.toNat) % 2 = 1))
    | _ => none)
  | .both q r => ansB (ans R q) (ans R r)
  | .eith q r => ansE (ans R q) (ans R r)
  | .opp q => ansO (ans R q)
  | .sure q => ansS (ans R q)
abbrev DFq (K : Frag) (c : Str) (fs : List Str) : Prop := DF K c ["Question"] ("parts" :: fs)
def inC (c : Str) : Prop := c ∈ csT
/-- the question at a -/
def QA (K : Frag) (H : Hp) : Addr → Qs → Prop
  | a, .atm T b => DFq K "AtMost" ["terms", "bound"] ∧ (SoT T ∧ T.length ≤ 60 ∧ ∀ t ∈ T, -(2 ^ 64) < t.2 ∧ t.2 < 2 ^ 64) ∧ inC "AtMost" ∧ ∃ dx p u ys, H a = some (.ins (He.ga K "AtMost") dx [("parts", .ref p), ("terms", .ref u), ("bound", .int b)]) ∧ TupF H u ys ∧ Cols K H ys T
  | a, .prs z => DFq K "Present" ["name"] ∧ inC "Present" ∧ ∃ dx p, H a = some (.ins (He.ga K "Present") dx [("parts", .ref p), ("name", .str z)])
  | a, .bit z i => DFq K "HasBit" ["name", "place"] ∧ inC "HasBit" ∧ ∃ dx p, H a = some (.ins (He.ga K "HasBit") dx [("parts", .ref p), ("name", .str z), ("place", .int i)])
  | a, .both q r => DFq K "Both" ["one", "other"] ∧ inC "Both" ∧ ∃ dx p b c, H a = some (.ins (He.ga K "Both") dx [("parts", .ref p), ("one", .ref b), ("other", .ref c)]) ∧ SqT K H p [.ref b, .ref c] ∧ QA K H b q ∧ QA K H c r
  | a, .eith q r => DFq K "Either" ["one", "other"] ∧ inC "Either" ∧ ∃ dx p b c, H a = some (.ins (He.ga K "Either") dx [("parts", .ref p), ("one", .ref b), ("other", .ref c)]) ∧ SqT K H p [.ref b, .ref c] ∧ QA K H b q ∧ QA K H c r
  | a, .opp q => DFq K "Opposite" ["part"] ∧ inC "Opposite" ∧ ∃ dx p b, H a = some (.ins (He.ga K "Opposite") dx [("parts", .ref p), ("part", .ref b)]) ∧ SqT K H p [.ref b] ∧ QA K H b q
  | a, .sure q => DFq K "Surely" ["part"] ∧ inC "Surely" ∧ ∃ dx p b, H a = some (.ins (He.ga K "Surely") dx [("parts", .ref p), ("part", .ref b)]) ∧ SqT K H p [.ref b] ∧ QA K H b q
theorem QA.same {K : Frag} {H H' : Hp} (e : Same H H') : ∀ {q : Qs} {a : Addr}, QA K H a q → QA K H' a q
  | .atm T b, a, ⟨d, k, c, dx, p, u, ys, h1, h2, h3⟩ => ⟨d, k, c, dx, p, u, ys, e _ _ h1, h2.same e, h3.same e⟩
  | .prs z, a, ⟨d, c, dx, p, h1⟩ => ⟨d, c, dx, p, e _ _ h1⟩
  | .bit z i, a, ⟨d, c, dx, p, h1⟩ => ⟨d, c, dx, p, e _ _ h1⟩
  | .both q r, a, ⟨d, c, dx, p, b, b2, h1, h2, h3, h4⟩ => ⟨d, c, dx, p, b, b2, e _ _ h1, Same.tup e h2, QA.same e h3, QA.same e h4⟩
  | .eith q r, a, ⟨d, c, dx, p, b, b2, h1, h2, h3, h4⟩ => ⟨d, c, dx, p, b, b2, e _ _ h1, Same.tup e h2, QA.same e h3, QA.same e h4⟩
  | .opp q, a, ⟨d, c, dx, p, b, h1, h2, h3⟩ => ⟨d, c, dx, p, b, e _ _ h1, Same.tup e h2, QA.same e h3⟩
  | .sure q, a, ⟨d, c, dx, p, b, h1, h2, h3⟩ => ⟨d, c, dx, p, b, e _ _ h1, Same.tup e h2, QA.same e h3⟩
theorem QA.x {K : Frag} {H H' : Hp} {st : Addr} {l : List V} (e : SameX st H H') (hst : H st = some (.lst l)) : ∀ {q : Qs} {a : Addr}, QA K H a q → QA K H' a q
  | .atm T b, a, ⟨d, k, c, dx, p, u, ys, h1, h2, h3⟩ => ⟨d, k, c, dx, p, u, ys, e _ _ h1 (ne_of h1 hst fun z => by cases z), h2.x e (fun o u z => by rw [hst] at z; cases z), h3.x e hst⟩
  | .prs z, a, ⟨d, c, dx, p, h1⟩ => ⟨d, c, dx, p, e _ _ h1 (ne_of h1 hst fun z => by cases z)⟩
  | .bit z i, a, ⟨d, c, dx, p, h1⟩ => ⟨d, c, dx, p, e _ _ h1 (ne_of h1 hst fun z => by cases z)⟩
  | .both q r, a, ⟨d, c, dx, p, b, b2, h1, h2, h3, h4⟩ => ⟨d, c, dx, p, b, b2, e _ _ h1 (ne_of h1 hst fun z => by cases z), e.tup h2 hst, QA.x e hst h3, QA.x e hst h4⟩
  | .eith q r, a, ⟨d, c, dx, p, b, b2, h1, h2, h3, h4⟩ => ⟨d, c, dx, p, b, b2, e _ _ h1 (ne_of h1 hst fun z => by cases z), e.tup h2 hst, QA.x e hst h3, QA.x e hst h4⟩
  | .opp q, a, ⟨d, c, dx, p, b, h1, h2, h3⟩ => ⟨d, c, dx, p, b, e _ _ h1 (ne_of h1 hst fun z => by cases z), e.tup h2 hst, QA.x e hst h3⟩
  | .sure q, a, ⟨d, c, dx, p, b, h1, h2, h3⟩ => ⟨d, c, dx, p, b, e _ _ h1 (ne_of h1 hst fun z => by cases z), e.tup h2 hst, QA.x e hst h3⟩
theorem Qs.pos (q : Qs) : 1 ≤ q.dep := by cases q <;> simp only [Qs.dep] <;> omega
end S
-- deps: Stp Qs
/-! ## recipes: steps upon a stack of questions (its top ahead) -/
namespace S
open PySem PySem.Spec PyProof.Rows L2
def Stp.isLeaf : Stp → Bool
  | .prs _ => true
  | .bit _ _ => true
  | .atm _ _ => true
  | _ => false
/-- how many questions lie on the stack -/
def okR : List Stp → Nat → Option Nat
  | [], n => some n
  | .and :: ss, n => if 2 ≤ n then okR ss (n - 1) else none
  | .or :: ss, n => if 2 ≤ n then okR ss (n - 1) else none
  | .not :: ss, n => if 1 ≤ n then okR ss n else none
  | .sure :: ss, n => if 1 ≤ n then okR ss n else none
  | .twice :: ss, n => if 1 ≤ n then okR ss (n + 1) else none
  | .prs _ :: ss, n => okR ss (n + 1)
  | .bit _ _ :: ss, n => okR ss (n + 1)
  | .atm _ _ :: ss, n => okR ss (n + 1)
/-- one step upon the stack -/
def stepQ (lf : Stp → Qs) : Stp → List Qs → List Qs
  | .and, r :: q :: st => .both q r :: st
  | .or, r :: q :: st => .eith q r :: st
  | .not, q :: st => .opp q :: st
  | .sure, q :: st => .sure q :: st
  | .twice, q :: st => q :: q :: st
  | .prs z, st => lf (.prs z) :: st
  | .bit z p, st => lf (.bit z p) :: st
  | .atm T b, st => lf (.atm T b) :: st
  | _, st => st
def runQ (lf : Stp → Qs) : List Stp → List Qs → List Qs
  | [], st => st
  | s :: ss, st => runQ lf ss (stepQ lf s st)
end S
-- deps: D0 D1
/-! ## the last item of a list -/
namespace S
open PySem PySem.Spec PyProof.Rows L2
end S
namespace S
open PySem PySem.Spec PyProof.Rows L2
end S
-- fn: _law_recipe
-- law: k41
-- deps: _law_leaf Rcp Fstay LastV
namespace S
open PySem PySem.Spec PyProof.Rows L2
section
variable {K : Frag} {H B W : Hp} {a st r z : Addr} {cs : List Col} {xs : List Addr} {ss : List Stp} {zs : List Int}
end
end S
-- deps: Rcp
/-! ## a leaf's question: its terms sorted -/
namespace S
open PySem PySem.Spec PyProof.Rows L2
open Classical in
noncomputable def srtT (T : Tms) : Tms := if h : ∃ U, SoT U ∧ ∀ z, lkT U z = lkT T z then Classical.choose h else []
/-- terms that are sorted and are told alike are these -/
theorem srtT_eq {T U : Tms} (h : SoT U) (e : ∀ z, lkT U z = lkT T z) : srtT T = U := by
  have ex : ∃ U, SoT U ∧ ∀ z, lkT U z = lkT T z := ⟨U, h, e⟩
  unfold srtT
  rw [dif_pos ex]
  have sp := Classical.choose_spec ex
  exact srt_ext sp.1 h fun z => (sp.2 z).trans (e z).symm
noncomputable def lfQ : Stp → Qs
  | .prs z => .prs z
  | .bit z p => .bit z p
  | .atm T b => .atm (srtT T) b
  | _ => .prs ""
end S
-- deps: Rcp2 Rw
/-! ## sorted terms have the value of the unsorted ones; pairs of an answer -/
namespace S
open PySem PySem.Spec PyProof.Rows L2
theorem ex_sortS : ∀ L : List Str, ∃ M : List Str, M.Perm L ∧ M.Pairwise leS
  | [] => ⟨[], .refl _, .nil⟩
  | x :: L => by
    classical
    obtain ⟨M, hp, hs⟩ := ex_sortS L
    refine ⟨M.filter (fun y => decide (leS y x)) ++ x :: M.filter (fun y => !decide (leS y x)), ?_, ?_⟩
    · exact List.perm_middle.trans (.cons x ((List.filter_append_perm _ _).trans hp))
    · refine List.pairwise_append.mpr ⟨hs.filter _, List.pairwise_cons.mpr ⟨fun y hy => ?_, hs.filter _⟩, fun y hy z hz => ?_⟩
      · have := (List.mem_filter.mp hy).2
        have : ¬ leS y x := by simpa using this
        exact (leS_total x y).resolve_right this
      · have h1 : leS y x := by simpa using (List.mem_filter.mp hy).2
        rcases List.mem_cons.mp hz with rfl | hz
        · exact h1
        · have : ¬ leS z x := by simpa using (List.mem_filter.mp hz).2
          exact leS_trans h1 ((leS_total x z).resolve_right this)
theorem srtT_ok {T : Tms} (nd : (nmT T).Nodup) : SoT (srtT T) ∧ ∀ z, lkT (srtT T) z = lkT T z := by
  obtain ⟨M, hp, hs⟩ := ex_sortS (nmT T)
  have so : SoT (trmT T M) := ⟨by rw [trmT_nm]; exact hp.nodup_iff.mpr nd, by rw [trmT_nm]; exact hs⟩
  have lk : ∀ z, lkT (trmT T M) z = lkT T z := fun z => by
    rw [trmT_lk]
    by_cases h : z ∈ M
    · rw [if_pos h]
      obtain ⟨c, hc⟩ := Option.isSome_iff_exists.mp (lkT_is.mpr (hp.mem_iff.mp h))
      rw [hc]; rfl
    · rw [if_neg h]
      exact (lkT_none fun g => h (hp.mem_iff.mpr g)).symm
  rw [srtT_eq so lk]
  exact ⟨so, lk⟩
theorem nodup_mapS {α β : Type} {f : α → β} : ∀ {l : List α}, (l.map f).Nodup → l.Nodup
  | [], _ => .nil
  | x :: l, h => by
    obtain ⟨h1, h2⟩ := List.pairwise_cons.mp h
    exact List.pairwise_cons.mpr ⟨fun y hy e => h1 (f y) (List.mem_map.mpr ⟨y, hy, rfl⟩) (by rw [e]), nodup_mapS h2⟩
theorem perm_lkS {T D : Tms} (nT : (nmT T).Nodup) (nD : (nmT D).Nodup) (e : ∀ z, lkT T z = lkT D z) : T.Perm D := (List.perm_ext_iff_of_nodup (nodup_mapS nT) (nodup_mapS nD)).mpr fun t =>
  ⟨fun h => lkT_some ((e t.1) ▸ lkT_mem nT h), fun h => lkT_some ((e t.1).symm ▸ lkT_mem nD h)⟩
theorem has_leaf {s : Stp} {L : List Str} (h : s.leaf L) : ∀ z, (lfQ s).has z → z ∈ L := fun z hz => by
  cases s with
  | prs y => rw [show z = y from hz]; exact h
  | bit y p => rw [show z = y from hz]; exact h.1
  | atm T c =>
    have hz : z ∈ nmT (srtT T) := hz
    have := (perm_lkS (srtT_ok h.1).1.nd h.1 (srtT_ok h.1).2).map (fun t => t.1)
    exact h.2.1 z (this.mem_iff.mp hz)
  | _ => exact h.elim
theorem plc_leaf {s : Stp} {L : List Str} (h : s.leaf L) : (lfQ s).plc := by
  cases s with
  | prs y => exact trivial
  | bit y p => exact ⟨h.2.1, h.2.2⟩
  | atm T c => exact trivial
  | _ => exact h.elim
/-- all questions on the stack have a property that the leaves have and that is kept -/
theorem runQ_all {P : Qs → Prop} (hb : ∀ q r, P q → P r → P (.both q r)) (he : ∀ q r, P q → P r → P (.eith q r)) (ho : ∀ q, P q → P (.opp q)) (hs : ∀ q, P q → P (.sure q)) :
    ∀ (ss : List Stp) (st : List Qs), (∀ s ∈ ss, s.isLeaf = true → P (lfQ s)) → (∀ q ∈ st, P q) → ∀ q ∈ runQ lfQ ss st, P q
  | [], st, _, h => h
  | s :: ss, st, hl, h => by
    refine runQ_all hb he ho hs ss _ (fun t ht => hl t (List.mem_cons_of_mem _ ht)) ?_
    have hl := hl s (List.mem_cons_self ..)
    cases s with
    | and => match st, h with
      | [], h => exact h
      | [_], h => exact h
      | r :: q :: st, h => exact fun x hx => (List.mem_cons.mp hx).elim (fun e => e ▸ hb _ _ (h q (by simp)) (h r (by simp))) fun hx => h x (by simp [hx])
    | or => match st, h with
      | [], h => exact h
      | [_], h => exact h
      | r :: q :: st, h => exact fun x hx => (List.mem_cons.mp hx).elim (fun e => e ▸ he _ _ (h q (by simp)) (h r (by simp))) fun hx => h x (by simp [hx])
    | not => match st, h with
      | [], h => exact h
      | q :: st, h => exact fun x hx => (List.mem_cons.mp hx).elim (fun e => e ▸ ho _ (h q (by simp))) fun hx => h x (by simp [hx])
    | sure => match st, h with
      | [], h => exact h
      | q :: st, h => exact fun x hx => (List.mem_cons.mp hx).elim (fun e => e ▸ hs _ (h q (by simp))) fun hx => h x (by simp [hx])
    | twice => match st, h with
      | [], h => exact h
      | q :: st, h => exact fun x hx => (List.mem_cons.mp hx).elim (fun e => e ▸ h q (by simp)) fun hx => h x hx
    | prs z => exact fun x hx => (List.mem_cons.mp hx).elim (fun e => e ▸ hl rfl) fun hx => h x hx
    | bit z p => exact fun x hx => (List.mem_cons.mp hx).elim (fun e => e ▸ hl rfl) fun hx => h x hx
    | atm T b => exact fun x hx => (List.mem_cons.mp hx).elim (fun e => e ▸ hl rfl) fun hx => h x hx
end S
-- deps: D0 D1
/-! ## a text of signs joined by nothing -/
namespace S
open PySem PySem.Spec PyProof.Rows L2
theorem txj_app (a y : Str) : (a ++ y).cps.toList = a.cps.toList ++ y.cps.toList := by
  rw [PySem.Str.cps_append, Array.toList_append]
end S
namespace S
open PySem PySem.Spec PyProof.Rows L2
def t__law_names_b2 (K : Frag) (E : XK) : TS :=
    tAsg (tOp (oAdd K) (dVar 6) (tOp (oIx K) (dVar 3) (dCall (sp__law_draw K) (EW E) (tCons (dVar 0) (tCons (dVar 1) (tCons (tC (.int 26)) (tNil))))))) (gName 6)
def t__law_names_b3_1 (K : Frag) (E : XK) : TS :=
    dIfS (dAnd (dCmpT (oEq K) (dVar 9) (tC (.str ""))) (dCmpT (oNin K) (dVar 10) (dVar 4))) (tAsg (dVar 10) (gName 9)) (tNext)
def t__law_names_b3 (K : Frag) (E : XK) : TS :=
    tSeq (tAsg (tOp (oAdd K) (dVar 6) (tOp (oIx K) (dVar 3) (tOp oMod (tCB cInt (tCons (tOp (oAdd K) (dVar 8) (dVar 7)) (tNil))) (tC (.int 26))))) (gName 10))
    (stop (t__law_names_b3_1 K E))
def t__law_names_b1_5 (K : Frag) (E : XK) : TS :=
    tDrop (dML K mApp (dVar 4) (tCons (dVar 9) (tNil)))
def t__law_names_b1_4 (K : Frag) (E : XK) : TS :=
    tSeq (dFor (iRng (tCons (tC (.int 26)) (tNil))) (gName 7) (t__law_names_b3 K E))
    (stop (t__law_names_b1_5 K E))
def t__law_names_b1_3 (K : Frag) (E : XK) : TS :=
    tSeq (tAsg (tC (.str "")) (gName 9))
    (stop (t__law_names_b1_4 K E))
def t__law_names_b1_2 (K : Frag) (E : XK) : TS :=
    tSeq (tAsg (dCall (sp__law_draw K) (EW E) (tCons (dVar 0) (tCons (dVar 1) (tCons (tC (.int 26)) (tNil))))) (gName 8))
    (stop (t__law_names_b1_3 K E))
def t__law_names_b1_1 (K : Frag) (E : XK) : TS :=
    tSeq (dFor (iRng (tCons (dCall (sp__law_draw K) (EW E) (tCons (dVar 0) (tCons (dVar 1) (tCons (tC (.int 8)) (tNil))))) (tNil))) (gName 7) (t__law_names_b2 K E))
    (stop (t__law_names_b1_2 K E))
def t__law_names_b1 (K : Frag) (E : XK) : TS :=
    tSeq (tAsg (tC (.str "")) (gName 6))
    (stop (t__law_names_b1_1 K E))
def t__law_names_3 (K : Frag) (E : XK) : TS :=
    tRet (dVar 4)
def t__law_names_2 (K : Frag) (E : XK) : TS :=
    tSeq (dFor (iRng (tCons (dVar 2) (tNil))) (gName 5) (t__law_names_b1 K E))
    (stop (t__law_names_3 K E))
def t__law_names_1 (K : Frag) (E : XK) : TS :=
    tSeq (tAsg (dLst (tNil)) (gName 4))
    (stop (t__law_names_2 K E))
def t__law_names (K : Frag) (E : XK) : TS :=
    tSeq (tAsg (tC (.str "abcdefghijklmnopqrstuvwxyz")) (gName 3))
    (stop (t__law_names_1 K E))
end S
-- fn: _law_names
-- law: k36
-- deps: Nm Txj _law_draw Li D0 D1
namespace S
open PySem PySem.Spec PyProof.Rows L2
def lowL (i : Nat) : Str := ⟨#[i + 97]⟩
theorem word_inj {x : Str} {i j : Nat} (h : x ++ lowL i = x ++ lowL j) : i = j := by
  have e := congrArg (fun z : Str => z.cps.toList) h
  simp only [txj_app] at e
  have e2 := List.append_cancel_left e
  have e3 : [i + 97] = [j + 97] := e2
  injection e3 with e3 _
  omega
theorem word_ok {x : Str} {i : Nat} (hx : ∀ c ∈ x.cps.toList, lowC c) (l : x.cps.size ≤ 7) (hi : i < 26) : nameOk (x ++ lowL i) := by
  have e : (x ++ lowL i).cps.toList = x.cps.toList ++ [i + 97] := txj_app _ _
  have ls : (x ++ lowL i).cps.size = x.cps.size + 1 := by
    rw [← Array.length_toList, e, List.length_append, Array.length_toList]; rfl
  refine ⟨fun c hc => ?_, by omega, by omega⟩
  rw [e] at hc
  rcases List.mem_append.mp hc with hc | hc
  · exact hx c hc
  · rw [List.mem_singleton.mp hc]; unfold lowC; omega
theorem nodup_lenG {α : Type} [DecidableEq α] : ∀ (L S : List α), L.Nodup → (∀ z ∈ L, z ∈ S) → L.length ≤ S.length
  | [], _, _, _ => Nat.zero_le _
  | x :: L, S, nd, hs => by
    obtain ⟨h1, h2⟩ := List.pairwise_cons.mp nd
    have hx := hs x (List.mem_cons_self ..)
    have ih := nodup_lenG L (S.erase x) h2 fun z hz => (List.mem_erase_of_ne (fun e => h1 z hz e.symm)).mpr (hs z (List.mem_cons_of_mem _ hz))
    have e := List.length_erase_of_mem hx
    have := List.length_pos_of_mem hx
    rw [List.length_cons]
    omega
theorem word_new {x : Str} {L : List Str} (t : Nat) (l : L.length < 26) : ∃ j, j < 26 ∧ x ++ lowL ((t + j) % 26) ∉ L := by
  refine Classical.byContradiction fun hn => ?_
  have all : ∀ w ∈ (List.range 26).map (fun j => x ++ lowL ((t + j) % 26)), w ∈ L := fun w hw => by
    obtain ⟨j, hj, rfl⟩ := List.mem_map.mp hw
    exact Classical.byContradiction fun h => hn ⟨j, List.mem_range.mp hj, h⟩
  have nd : ((List.range 26).map (fun j => x ++ lowL ((t + j) % 26))).Nodup := by
    refine List.pairwise_map.mpr ((List.pairwise_lt_range (n := 26)).imp_of_mem fun {a b} ha hb hab => ?_)
    have h1 := List.mem_range.mp ha
    have h2 := List.mem_range.mp hb
    intro e
    have := word_inj e
    omega
  have := nodup_lenG _ _ nd all
  rw [List.length_map, List.length_range] at this
  omega
def sp__law_names (K : Frag) : Sp := fun vs H Q _ => ∃ (a st : Addr) (n : Int), vs = [.ref a, .ref st, .int n] ∧ Ctx K H a st ∧ 0 ≤ n ∧ n ≤ 20 ∧
  ∀ (p : Addr) (L : List Str) (H' : Hp), H p = none → H' p = some (.lst (L.map V.str)) → (L.length : Int) = n → L.Nodup → (∀ z ∈ L, nameOk z) → Ctx K H' a st → SameX st H H' → Q (.ref p) H'
def s36n (a st p : Addr) (n : Int) (k5 k6 k7 k8 k9 k10 : Option V) : L2.St := [some (.ref a), some (.ref st), some (.int n), some (.str "abcdefghijklmnopqrstuvwxyz"), some (.ref p), k5, k6, k7, k8, k9, k10]
theorem pure__law_names {K : Frag} (vs : List V) (H : Hp) (Q : VK) (E : XK) (h : sp__law_names K vs H Q E) : t__law_names K E { nx := fun _ H' => Q .non H', rt := Q } (start ["_law_script", "_law_state", "_law_count", "_law_letters", "_law_names_here", "_law_k", "_law_head", "_law_j", "_law_tail", "_law_name", "_law_word"] vs) H := by
  obtain ⟨a, st, n, rfl, hc, n0, n1, q⟩ := h
  walk_at "gx"
  refine ⟨fun p np => ?_⟩
  have c1 := hc.same (same_new (o := .lst ([] : List V)) np)
  have pst := ctx_ne hc np
  walk_at "gx"
  refine for_rng (fun i σ H3 => ∃ (L : List Str) (k5 k6 k7 k8 k9 k10 : Option V), σ = s36n a st p n k5 k6 k7 k8 k9 k10 ∧ H3 p = some (.lst (L.map V.str)) ∧ L.length = i ∧ L.Nodup ∧ (∀ z ∈ L, nameOk z) ∧ Ctx K H3 a st ∧ SameX st H H3) ⟨[], none, none, none, none, none, none, rfl, upd_same, rfl, .nil, (fun _ z => nomatch z), c1, Same.x (same_new np)⟩ ?_ ?_
  · rintro i σ H3 hi ⟨L, k5, k6, k7, k8, k9, k10, rfl, hL, lL, nd, ok, c3, e3⟩
    walk_at "gx"
    refine ⟨a, st, _, rfl, c3, by decide, fun d H4 d0 d1 c4 e4 => ?_⟩
    have d1 : d < 8 := d1
    have hL4 := e4 _ _ hL pst
    refine Need.mk (by omega) ?_
    show LoopR _ _ _ _ (Itr 0 d.toNat) H4
    refine for_rng (fun j σ H5 => ∃ (x : Str) (k7 : Option V), σ = s36n a st p n (some (.int i)) (some (.str x)) k7 k8 k9 k10 ∧ (∀ c ∈ x.cps.toList, lowC c) ∧ x.cps.size = j ∧ H5 p = some (.lst (L.map V.str)) ∧ Ctx K H5 a st ∧ SameX st H H5) ⟨"", k7, rfl, (fun _ z => nomatch z), rfl, hL4, c4, e3.trans e4⟩ ?_ ?_
    · rintro j σ H5 hj ⟨x, k7, rfl, hx, lx, hL5, c5, e5⟩
      walk_at "gx"
      refine ⟨a, st, _, rfl, c5, by decide, fun r H6 r0 r1 c6 e6 => ?_⟩
      have r1 : r < 26 := r1
      obtain ⟨r, rfl⟩ := Int.eq_ofNat_of_zero_le r0
      refine Need.mk (by rw [sizeLine_eq]; show 26 ≤ 16777216; decide) ?_
      refine ⟨⟨r + 97, ?_, ?_⟩⟩
      · rw [abc_list]
        refine atI_nat (j := r) ?_
        rw [List.getElem?_map, List.getElem?_range (by omega)]; rfl
      have lx2 : x.length = j := lx
      refine Need.mk (by rw [sizeLine_eq, lx2]; show j + 1 ≤ _; omega) ?_
      have ew : (x ++ (⟨#[r + 97]⟩ : Str)).cps.toList = x.cps.toList ++ [r + 97] := txj_app _ _
      refine ⟨x ++ ⟨#[r + 97]⟩, _, rfl, fun c hc => ?_, ?_, e6 _ _ hL5 pst, c6, e5.trans e6⟩
      · rw [ew] at hc
        rcases List.mem_append.mp hc with hc | hc
        · exact hx c hc
        · rw [List.mem_singleton.mp hc]; unfold lowC; omega
      · rw [← Array.length_toList, ew, List.length_append, Array.length_toList, lx]; rfl
    · rintro σ H5 ⟨x, k7, rfl, hx, lx, hL5, c5, e5⟩
      walk_at "gx"
      refine ⟨a, st, _, rfl, c5, by decide, fun r H6 r0 r1 c6 e6 => ?_⟩
      have r1 : r < 26 := r1
      obtain ⟨r, rfl⟩ := Int.eq_ofNat_of_zero_le r0
      have hL6 := e6 _ _ hL5 pst
      have e56 := e5.trans e6
      have lx7 : x.cps.size ≤ 7 := by omega
      walk_at "gx"
      refine for_rng (fun j σ H7 => ∃ (nm : Str) (k7 k10 : Option V), σ = s36n a st p n (some (.int i)) (some (.str x)) k7 (some (.int r)) (some (.str nm)) k10 ∧ H7 = H6 ∧ ((nm = "" ∧ ∀ g, g < j → x ++ lowL ((r + g) % 26) ∈ L) ∨ (nm ∉ L ∧ ∃ g, g < 26 ∧ nm = x ++ lowL g))) ⟨"", k7, k10, rfl, rfl, .inl ⟨rfl, fun g hg => absurd hg (Nat.not_lt_zero _)⟩⟩ ?_ ?_
      · rintro j σ H7 hj ⟨nm, k7, k10, rfl, rfl, hnm⟩
        walk_at "gx"
        have hj : (j : Int) < 26 := hj
        have eq : ((r : Int) + (j : Int)) % 26 = (((r + j) % 26 : Nat) : Int) := by omega
        refine ⟨⟨(r + j) % 26 + 97, ?_, ?_⟩⟩
        · show atI _ (((r : Int) + (j : Int)) % 26) = _
          rw [eq, abc_list]
          refine atI_nat ?_
          rw [List.getElem?_map, List.getElem?_range (Nat.mod_lt _ (by decide))]; rfl
        have lx2 : x.length ≤ 7 := lx7
        refine Need.mk (by rw [sizeLine_eq]; show x.length + 1 ≤ _; omega) ?_
        walk_at "gx"
        refine ifd (fun h1 => ?_) (fun h1 => ?_)
        · walk_at "gx"
          refine Need.mk ⟨rfl, flat_strs _⟩ ?_
          rw [inV_strs]
          refine ifn (fun h2 => ?_) (fun h2 => ?_)
          · exact ⟨_, _, _, rfl, rfl, .inr ⟨h2, (r + j) % 26, Nat.mod_lt _ (by decide), rfl⟩⟩
          · refine ⟨nm, _, _, rfl, rfl, ?_⟩
            rcases hnm with ⟨e, hall⟩ | hnm
            · refine .inl ⟨e, fun g hg => ?_⟩
              rcases Nat.lt_or_ge g j with hgj | hgj
              · exact hall g hgj
              · have : g = j := by omega
                rw [this]; exact h2
            · exact .inr hnm
        · refine ⟨nm, _, _, rfl, rfl, ?_⟩
          rcases hnm with ⟨e, _⟩ | hnm
          · exact absurd e h1
          · exact .inr hnm
      · rintro σ H7 ⟨nm, k7, k10, rfl, rfl, hnm⟩
        have lm : (L.map V.str).length < sizeLine := by rw [List.length_map, sizeLine_eq]; omega
        have hnm2 : nm ∉ L ∧ ∃ g, g < 26 ∧ nm = x ++ lowL g := by
          rcases hnm with ⟨_, hall⟩ | h
          · obtain ⟨j, hj, hn⟩ := word_new (x := x) (L := L) r (by omega)
            exact absurd (hall j hj) hn
          · exact h
        obtain ⟨hn, g, hg, en⟩ := hnm2
        walk_at "gx"
        refine ⟨L ++ [nm], _, _, _, _, _, _, rfl, by rw [upd_same, List.map_append]; rfl, by rw [List.length_append, lL]; rfl, ?_, fun z hz => ?_, c6.mut hc np, ?_⟩
        · refine List.pairwise_append.mpr ⟨nd, List.pairwise_singleton _ _, fun u hu v hv => ?_⟩
          rw [List.mem_singleton.mp hv]
          exact fun z => hn (z ▸ hu)
        · rcases List.mem_append.mp hz with hz | hz
          · exact ok z hz
          · rw [List.mem_singleton.mp hz, en]; exact word_ok hx lx7 hg
        · intro b o hb hn
          rw [upd_ne (ne_of_none hb np)]
          exact e56 _ _ hb hn
  · rintro σ H3 ⟨L, k5, k6, k7, k8, k9, k10, rfl, hL, lL, nd, ok, c3, e3⟩
    walk_at "gx"
    exact q p L H3 np hL (by omega) nd ok c3 e3
end S
-- deps: _law_names Fm2 Fstay
namespace S
open PySem PySem.Spec PyProof.Rows L2
end S
-- deps: Rw Fm2 _law_some_pre
/-! ## rows of a law, dicts of terms -/
namespace S
open PySem PySem.Spec PyProof.Rows L2
end S
-- deps: Rw Fm2 Rws
/-! ## values of sums of terms -/
namespace S
open PySem PySem.Spec PyProof.Rows L2
end S
-- deps: Srt Rw3
/-! ## answers hang on the named values alone -/
namespace S
open PySem PySem.Spec PyProof.Rows L2
end S
-- deps: Tbl
/-! ## tables by first visits of states -/
namespace S
open PySem PySem.Spec PyProof.Rows L2
section
variable {κ : Type} [DecidableEq κ] (st : Nat → κ → κ × κ) (e : κ → Option Bool)
/-- the tree of a state, d levels from level i on -/
def unfT : Nat → Nat → κ → BT
  | 0, _, s => .lf (e s)
  | d + 1, i, s => .nd (unfT d (i + 1) (st i s).1) (unfT d (i + 1) (st i s).2)
def kids (i : Nat) (P : List κ) : List κ := P.flatMap fun s => [(st i s).1, (st i s).2]
/-- the states of each level -/
def pts (s0 : κ) : Nat → List κ
  | 0 => [s0]
  | i + 1 => dst (kids st i (pts s0 i))
variable {st e}
theorem unfT_full : ∀ (d i : Nat) (s : κ), (unfT st e d i s).full d
  | 0, _, _ => True.intro
  | d + 1, i, s => ⟨unfT_full d (i + 1) _, unfT_full d (i + 1) _⟩
theorem kids_len (i : Nat) (P : List κ) : (kids st i P).length = 2 * P.length := by
  unfold kids
  induction P with
  | nil => rfl
  | cons t F ih => rw [List.flatMap_cons, List.length_append, ih, List.length_cons]; simp; omega
theorem pts_two {s0 : κ} : ∀ i, (pts st s0 i).length ≤ 2 ^ i
  | 0 => Nat.le_refl _
  | i + 1 => by
    have h := dst_len (kids st i (pts st s0 i))
    rw [kids_len] at h
    have := pts_two (s0 := s0) i
    show (dst (kids st i (pts st s0 i))).length ≤ _
    rw [Nat.pow_succ]; omega
end
end S
namespace S
open PySem PySem.Spec PyProof.Rows L2
end S
-- fn: next_states
-- law: k51
-- deps: D0
namespace S
open PySem PySem.Spec PyProof.Rows L2
def nxS (a b : Int) : Option Int → Option Int → Option Int × Option Int
  | none, _ => (none, none)
  | some s, none => (none, some (max (a - 1) (min s b)))
  | some s, some w => (some (max (a - 1) (min s b)), some (max (a - 1) (min (s - w) b)))
end S
namespace S
open PySem PySem.Spec PyProof.Rows L2
end S
-- fn: rest_bounds
-- law: k51
-- deps: Tbl Lcg
namespace S
open PySem PySem.Spec PyProof.Rows L2
def rLo : List (Option Int) → Int
  | [] => 0
  | none :: l => rLo l
  | some w :: l => rLo l + min 0 w
def rHi : List (Option Int) → Int
  | [] => 0
  | none :: l => rHi l
  | some w :: l => rHi l + max 0 w
end S
-- deps: D0 D1
/-! ## comprehensions over a range whose items are drawn -/
namespace S
open PySem PySem.Spec PyProof.Rows L2
end S
namespace S
open PySem PySem.Spec PyProof.Rows L2
end S
-- fn: _law_table
-- law: k49
-- deps: Eqt Lrx _law_draw D1
namespace S
open PySem PySem.Spec PyProof.Rows L2
section
variable {K : Frag} {H0 H H' : Hp} {st : Addr}
end
/-- sizes of the levels as they were drawn -/
theorem wid_fun {c : Nat → Nat} {es : Ends3} : ∀ {ls : Lvs}, (∀ i ps, ls[i]? = some ps → ps.length = c i) → es.length = c ls.length → ∀ i, i ≤ ls.length → wid (ls.drop i) es = c i
  | [], _, h2, 0, _ => h2
  | [], _, _, _ + 1, hi => absurd hi (Nat.not_succ_le_zero _)
  | ps :: ls, h1, _, 0, _ => h1 0 ps rfl
  | ps :: ls, h1, h2, i + 1, hi => wid_fun (c := fun j => c (j + 1)) (ls := ls) (fun j qs h => h1 (j + 1) qs h) h2 i (Nat.le_of_succ_le_succ hi)
theorem okT_fun {c : Nat → Nat} {es : Ends3} : ∀ {ls : Lvs}, (∀ i ps, ls[i]? = some ps → ps.length = c i) → (∀ i ps, ls[i]? = some ps → ∀ p ∈ ps, p.1 < c (i + 1) ∧ p.2 < c (i + 1)) → es.length = c ls.length → okT ls es
  | [], _, _, _ => True.intro
  | ps :: ls, h1, h2, h3 => by
    refine ⟨fun p hp => ?_, okT_fun (c := fun j => c (j + 1)) (ls := ls) (fun j qs h => h1 (j + 1) qs h) (fun j qs h => h2 (j + 1) qs h) h3⟩
    have hw := wid_fun (c := fun j => c (j + 1)) (ls := ls) (fun j qs h => h1 (j + 1) qs h) h3 0 (Nat.zero_le _)
    rw [List.drop_zero] at hw
    rw [hw]
    exact h2 0 ps rfl p hp
section
variable {K : Frag} {E : XK} {Q : VK} {D : L2.Ends}
end
end S
-- deps: Fstay
namespace S
open PySem PySem.Spec PyProof.Rows L2
end S
namespace S
open PySem PySem.Spec PyProof.Rows L2
end S
-- fn: comparison_table
-- law: k51
-- dX: visited
-- tupK: yes
-- enA: yes
-- deps: Unf next_states rest_bounds Eqt _law_table Fstay Fen
namespace S
open PySem PySem.Spec PyProof.Rows L2
/-- the step behind a level of weights ws ahead -/
def cmpS (ws : List (Option Int)) (i : Nat) (s : Option Int) : Option Int × Option Int := nxS (rLo (ws.drop (i + 1))) (rHi (ws.drop (i + 1))) s (ws.getD i none)
def cmpE : Option Int → Option Bool
  | none => none
  | some s => some (decide (s ≥ 0))
section
variable {K : Frag} {E : XK} {Q : VK} {D : L2.Ends}
end
end S
namespace S
open PySem PySem.Spec PyProof.Rows L2
def t_Schema_width_of_b1 (K : Frag) (E : XK) : TS :=
    dIfS (dCmpT (oEq K) (dVar 2) (dVar 1)) (tRet (dVar 3)) (tNext)
def t_Schema_width_of_1 (K : Frag) (E : XK) : TS :=
    dGivS (ExF K "NoSuchColumn" ["SliceError"]) (dRsI K "NoSuchColumn" "name" (WD E) 1)
def t_Schema_width_of (K : Frag) (E : XK) : TS :=
    tSeq (dFor (iSeq K (dAt K "columns" (dVar 0))) (gTup K 2 (gCons (gName 2) (gCons (gName 3) (gNil)))) (t_Schema_width_of_b1 K E))
    (stop (t_Schema_width_of_1 K E))
end S
-- fn: Schema.width_of
-- law: k36
-- deps: Schema_init D0 D1
namespace S
open PySem PySem.Spec PyProof.Rows L2
def sp_Schema_width_of (K : Frag) : Sp := fun vs H Q E => ∃ (x : Addr) (cs : List Col) (z : Str), vs = [.ref x, .str z] ∧ Sc K H x cs ∧ (∀ w, (z, w) ∈ cs → Q (.int w) H) ∧ ((∀ c ∈ cs, c.1 ≠ z) → XE K "NoSuchColumn" → ∀ d, H d = none → E (.ref (He.ga K "NoSuchColumn")) (some d) (upd H d (.xd [("name", .str z)])))
theorem pure_Schema_width_of {K : Frag} (vs : List V) (H : Hp) (Q : VK) (E : XK) (h : sp_Schema_width_of K vs H Q E) : t_Schema_width_of K E { nx := fun _ H' => Q .non H', rt := Q } (start ["self", "name", "known", "width"] vs) H := by
  obtain ⟨x, cs, z, rfl, ⟨sf, _, _, dx, u, ys, hx, hu, hC⟩, good, bad⟩ := h
  walk_at "gx"
  refine Atr.df sf hx rfl ?_
  refine for_seq (K := K) (fun i σ H1 => H1 = H ∧ (∃ a b : Option V, σ = [some (.ref x), some (.str z), a, b]) ∧ ∀ c ∈ cs.take i, c.1 ≠ z) (.inr hu) ⟨rfl, ⟨none, none, rfl⟩, fun _ z => by simp at z⟩ (fun i σ H' _ z => by rw [z.1]; exact Same.stay (Same.refl _)) ?_ ?_
  · rintro i y σ H1 hi ⟨rfl, ⟨a, b, rfl⟩, hall⟩
    obtain ⟨c, hc, ad, rfl, ht⟩ := cols_at hC hi
    refine ⟨ad, _, rfl, ht, rfl, _, _, rfl, _, _, rfl, rfl, ?_⟩
    walk_at "gx"
    refine ifd (fun h => ?_) (fun h => ?_)
    · have h : c.1 = z := h
      subst h
      exact good c.2 (List.mem_of_getElem? hc)
    · refine ⟨rfl, ⟨_, _, rfl⟩, fun d hd => ?_⟩
      rw [List.take_add_one, hc] at hd
      rcases List.mem_append.mp hd with hd | hd
      · exact hall d hd
      · rw [show d = c by simpa using hd]; exact h
  · rintro σ H1 ⟨rfl, ⟨a, b, rfl⟩, hall⟩
    rw [← hC.length, List.take_length] at hall
    walk_at "gx"
    exact fun xf => ⟨fun d nd => bad hall xf d nd⟩
end S
namespace S
open PySem PySem.Spec PyProof.Rows L2
end S
-- fn: Form.plus
-- law: k38
-- dict: terms
-- deps: Form_init Fm2 Fstay
namespace S
open PySem PySem.Spec PyProof.Rows L2
end S
namespace S
open PySem PySem.Spec PyProof.Rows L2
end S
-- fn: weights_of
-- law: k51
-- dict: coefficients question.terms
-- deps: Lay Qs Schema_all_slices_t Schema_width_of width_for Form_plus Fstay Nm
namespace S
open PySem PySem.Spec PyProof.Rows L2
/-- what a slice's bit is worth in the sum of T, none for the presence slices of its columns -/
def wgtC (cs : List Col) (T : Tms) (c : Col) : Option Int := match lkT T c.1 with
  | none => some 0
  | some f => if c.2 < 0 then none else some (f * (if c.2 + 1 = (lkT cs c.1).getD 0 then -(2 ^ c.2.toNat) else 2 ^ c.2.toNat))
section
variable {K : Frag} {E : XK} {Q : VK} {D : L2.Ends}
end
end S
namespace S
open PySem PySem.Spec PyProof.Rows L2
end S
-- fn: bit_table
-- law: k51
-- deps: Eqt Cols Schema_all_slices_t Fstay _law_table
namespace S
open PySem PySem.Spec PyProof.Rows L2
/-- the table of one bit -/
def bitL (m j : Nat) : Lvs := (List.range m).map fun i => if i = j then [(0, 1)] else if j < i then [(0, 0), (1, 1)] else [(0, 0)]
theorem bitL_len (m j : Nat) : (bitL m j).length = m := by unfold bitL; rw [List.length_map, List.length_range]
theorem bitL_get {m j i : Nat} (h : i < m) : (bitL m j)[i]? = some (if i = j then [(0, 1)] else if j < i then [(0, 0), (1, 1)] else [(0, 0)]) := by unfold bitL; rw [List.getElem?_map, List.getElem?_range h]; rfl
section
variable {K : Frag} {E : XK} {Q : VK} {D : L2.Ends}
end
end S
namespace S
open PySem PySem.Spec PyProof.Rows L2
end S
-- fn: rank_of
-- law: k39
-- deps: Qs
namespace S
open PySem PySem.Spec PyProof.Rows L2
end S
namespace S
open PySem PySem.Spec PyProof.Rows L2
end S
-- fn: both_truths
-- law: k39
-- deps: rank_of
namespace S
open PySem PySem.Spec PyProof.Rows L2
end S
namespace S
open PySem PySem.Spec PyProof.Rows L2
end S
-- fn: either_truths
-- law: k40
-- deps: rank_of
namespace S
open PySem PySem.Spec PyProof.Rows L2
end S
namespace S
open PySem PySem.Spec PyProof.Rows L2
end S
-- fn: joined_truth
-- law: k51
-- deps: both_truths either_truths
namespace S
open PySem PySem.Spec PyProof.Rows L2
def jtF (r : Str) (a b : Option Bool) : Option Bool := if r = "both" then ansB a b else if r = "either" then ansE a b else if a = some true then b else none
end S
namespace S
open PySem PySem.Spec PyProof.Rows L2
end S
-- fn: product
-- law: k51
-- dX: visited
-- tupK: yes
-- zipU: yes
-- deps: Unf joined_truth Eqt _law_table Fstay Lcg Ins
namespace S
open PySem PySem.Spec PyProof.Rows L2
/-- two trees joined -/
def zipT (f : Option Bool → Option Bool → Option Bool) : BT → BT → BT
  | .lf a, .lf b => .lf (f a b)
  | .nd a b, .nd c d => .nd (zipT f a c) (zipT f b d)
  | t, _ => t
section
variable {K : Frag} {E : XK} {Q : VK} {D : L2.Ends}
end
end S
namespace S
open PySem PySem.Spec PyProof.Rows L2
end S
-- fn: leaf_table
-- law: k51
-- tupK: yes
-- deps: comparison_table weights_of bit_table product Cx
namespace S
open PySem PySem.Spec PyProof.Rows L2
/-- a question without parts over the columns -/
def Qs.lfD (cs : List Col) : Qs → Prop
  | .atm T _ => ∀ t ∈ T, ∃ w, (t.1, w) ∈ cs
  | .prs z => ∃ w, (z, w) ∈ cs
  | .bit z p => (∃ w, (z, w) ∈ cs) ∧ 0 ≤ p
  | _ => False
/-- each slice once -/
structure OrdOk (cs os : List Col) : Prop where
  nd : os.Nodup
  mem : ∀ c, c ∈ os ↔ ∃ w, (c.1, w) ∈ cs ∧ -1 ≤ c.2 ∧ c.2 < w
  len : os.length ≤ 10000
/-- the tree of a bit -/
def bitR (m j : Nat) : BT := gT (trees (bitL m j) [some false, some true]) 0
def wOf (cs : List Col) (z : Str) : Int := (lkT cs z).getD 0
def lfT (cs os : List Col) : Qs → BT
  | .atm T b => unfT (cmpS (os.map (wgtC cs T))) cmpE os.length 0 (some b)
  | .prs z => bitR os.length (ixF os (z, -1))
  | .bit z p => zipT (jtF "guard") (bitR os.length (ixF os (z, -1))) (bitR os.length (ixF os (z, min p (wOf cs z - 1))))
  | _ => .lf none
theorem bit_facts {m j : Nat} (h : j < m) : okT (bitL m j) [some false, some true] ∧ wid (bitL m j) [some false, some true] = 1 ∧ (∀ ps ∈ bitL m j, ps.length ≤ 2) := by
  have hl : ∀ i ps, (bitL m j)[i]? = some ps → ps.length = if j < i then 2 else 1 := fun i ps hi => by
    have il := (List.getElem?_eq_some_iff.mp hi).1
    rw [bitL_len] at il
    rw [bitL_get il] at hi
    cases hi
    by_cases e : i = j
    · rw [if_pos e, if_neg (by omega)]; rfl
    · rw [if_neg e]
      by_cases g : j < i
      · rw [if_pos g, if_pos g]; rfl
      · rw [if_neg g, if_neg g]; rfl
  refine ⟨okT_fun (c := fun i => if j < i then 2 else 1) hl ?_ ?_, ?_, ?_⟩
  · intro i ps hi p hp
    have il := (List.getElem?_eq_some_iff.mp hi).1
    rw [bitL_len] at il
    rw [bitL_get il] at hi
    cases hi
    by_cases e : i = j
    · subst e
      rw [if_pos rfl] at hp
      rw [List.mem_singleton.mp hp]
      simp
    · rw [if_neg e] at hp
      by_cases g : j < i
      · rw [if_pos g] at hp
        simp only [show j < i + 1 from by omega, if_true]
        simp only [List.mem_cons, List.not_mem_nil, or_false] at hp
        rcases hp with rfl | rfl <;> simp
      · rw [if_neg g] at hp
        simp only [show ¬ j < i + 1 from by omega, if_false]
        rw [List.mem_singleton.mp hp]
        simp
  · show 2 = if j < (bitL m j).length then 2 else 1
    rw [bitL_len, if_pos h]
  · have := wid_fun (c := fun i => if j < i then 2 else 1) hl (show [some false, some true].length = if j < (bitL m j).length then 2 else 1 by rw [bitL_len, if_pos h]; rfl) 0 (Nat.zero_le _)
    rw [List.drop_zero] at this
    rw [this]
    show (if j < 0 then 2 else 1) = 1
    rw [if_neg (Nat.not_lt_zero _)]
  · intro ps hps
    obtain ⟨i, hi, rfl⟩ := List.mem_iff_getElem.mp hps
    rw [hl i _ (List.getElem?_eq_getElem hi)]
    split <;> omega
end S
namespace S
open PySem PySem.Spec PyProof.Rows L2
end S
-- fn: class_levels
-- law: k49
-- deps: Tbl
-- tupK: yes
namespace S
open PySem PySem.Spec PyProof.Rows L2
end S
namespace S
open PySem PySem.Spec PyProof.Rows L2
end S
-- fn: first_nodes
-- law: k49
-- dX: first
-- enA: yes
-- deps: numbered_once Fen
namespace S
open PySem PySem.Spec PyProof.Rows L2
end S
namespace S
open PySem PySem.Spec PyProof.Rows L2
end S
-- fn: reduced
-- law: k49
-- deps: class_levels first_nodes
-- dX: visited first last
-- enA: yes
-- tupK: yes
namespace S
open PySem PySem.Spec PyProof.Rows L2
section
variable {K : Frag} {E : XK} {Q : VK} {D : L2.Ends}
theorem LvG.sx {st a : Addr} {l : List V} {ps : List (Nat × Nat)} {H H' : Hp} (h : LvG true K H a ps) (e : SameX st H H') (hs : H st = some (.lst l)) : LvG true K H' a ps := by
  obtain ⟨ts, h1, h2⟩ := h
  have h1 : SqT K H a (ts.map V.ref) := h1
  exact ⟨ts, SameX.tup e h1 hs, Paired.mapP h2 fun _ _ r => SameX.tup e r hs⟩
end
end S
-- deps: Tbl
/-! ## least tables -/
namespace S
open PySem PySem.Spec PyProof.Rows L2
end S
-- deps: reduced Least Schema_all_slices_t
/-! ## diagrams on the heap -/
namespace S
open PySem PySem.Spec PyProof.Rows L2
abbrev DgF (K : Frag) : Prop := DF K "Diagram" [] ["order", "levels", "ends"]
/-- no level has more than 128 nodes -/
def narrow (m : Nat) (t : BT) : Prop := ∀ i, i ≤ m → (lvF i [t]).length ≤ 128
/-- an order handed in: a list, or a tuple whose object is known -/
def OrdO (K : Frag) (H : Hp) (p : Addr) (ys : List V) : Prop := SqL K H p ys ∨ TupF H p ys
theorem OrdO.same {K : Frag} {H H' : Hp} {p : Addr} {ys : List V} (h : OrdO K H p ys) (e : Same H H') : OrdO K H' p ys := h.imp e.seq fun h => h.same e
theorem OrdO.tup {K : Frag} {H : Hp} {p : Addr} {ys : List V} {Q : VK} (h : OrdO K H p ys) (q : ∀ op H', Same H H' → TupF H' op ys → Q (.ref op) H') : TupO K H p Q := h.elim (fun h => .l h ⟨fun p H' e _ ht => q p H' e ht⟩) fun h => .t h (q p H (Same.refl _) h)
/-- a diagram: its order and its tree -/
def DgA (K : Frag) (H : Hp) (a : Addr) (os : List Col) (t : BT) : Prop := DgF K ∧ t.full os.length ∧ narrow os.length t ∧ ∃ (dx po pl pe : Addr) (ys : List V), H a = some (.ins (He.ga K "Diagram") dx [("order", .ref po), ("levels", .ref pl), ("ends", .ref pe)]) ∧ TupF H po ys ∧ ColsK H ys os ∧ TbG true K H pl (canL os.length [t]) ∧ SqT K H pe ((canE os.length [t]).map obV)
theorem DgA.same {K : Frag} {H H' : Hp} {a : Addr} {os : List Col} {t : BT} (h : DgA K H a os t) (e : Same H H') : DgA K H' a os t := by
  obtain ⟨c, f, n, dx, po, pl, pe, ys, h1, h2, h3, h4, h5⟩ := h
  exact ⟨c, f, n, dx, po, pl, pe, ys, e _ _ h1, h2.same e, h3.same e, h4.same e, Same.tup e h5⟩
theorem RowT.x {K : Frag} {H H' : Hp} {st t : Addr} {l : List V} {p : Nat × Nat} (h : RowT K H t p) (e : SameX st H H') (hst : H st = some (.lst l)) : RowT K H' t p := SameX.tup e h hst
theorem TbG.x {K : Frag} {H H' : Hp} {st p : Addr} {l : List V} {ls : Lvs} (h : TbG true K H p ls) (e : SameX st H H') (hst : H st = some (.lst l)) : TbG true K H' p ls := by
  obtain ⟨xs, h1, h2⟩ := h
  have h1 : SqT K H p (xs.map V.ref) := h1
  exact ⟨xs, SameX.tup e h1 hst, Paired.mapP h2 fun _ _ r => LvG.sx r e hst⟩
theorem DgA.x {K : Frag} {H H' : Hp} {a st : Addr} {os : List Col} {t : BT} {l : List V} (h : DgA K H a os t) (e : SameX st H H') (hst : H st = some (.lst l)) : DgA K H' a os t := by
  obtain ⟨c, f, n, dx, po, pl, pe, ys, h1, h2, h3, h4, h5⟩ := h
  exact ⟨c, f, n, dx, po, pl, pe, ys, e _ _ h1 (ne_of h1 hst fun z => by cases z), h2.x e (fun o u z => by rw [hst] at z; cases z), h3.x e hst (fun _ z => by cases z), h4.x e hst, SameX.tup e h5 hst⟩
end S
namespace S
open PySem PySem.Spec PyProof.Rows L2
end S
-- fn: Diagram.__init__
-- law: k51
-- tupOb: yes
-- deps: Dgm Ins Cx
namespace S
open PySem PySem.Spec PyProof.Rows L2
end S
namespace S
open PySem PySem.Spec PyProof.Rows L2
end S
-- fn: Diagram.joined
-- law: k52
-- meth: self.joined=Diagram
-- deps: Diagram_init product
namespace S
open PySem PySem.Spec PyProof.Rows L2
/-- the ends turned by f -/
def mapT (f : Option Bool → Option Bool) : BT → BT
  | .lf a => .lf (f a)
  | .nd a b => .nd (mapT f a) (mapT f b)
theorem mapT_full {f : Option Bool → Option Bool} : ∀ {m : Nat} {t : BT}, t.full m → (mapT f t).full m
  | 0, .lf _, _ => True.intro
  | _ + 1, .nd _ _, h => ⟨mapT_full h.1, mapT_full h.2⟩
  | 0, .nd _ _, h => h.elim
  | _ + 1, .lf _, h => h.elim
theorem zipT_full {f : Option Bool → Option Bool → Option Bool} : ∀ {m : Nat} {t u : BT}, t.full m → u.full m → (zipT f t u).full m
  | 0, .lf _, .lf _, _, _ => True.intro
  | _ + 1, .nd _ _, .nd _ _, h, g => ⟨zipT_full h.1 g.1, zipT_full h.2 g.2⟩
  | 0, .nd _ _, _, h, _ => h.elim
  | 0, .lf _, .nd _ _, _, g => g.elim
  | _ + 1, .lf _, _, h, _ => h.elim
  | _ + 1, .nd _ _, .lf _, _, g => g.elim
theorem mapT_run {f : Option Bool → Option Bool} : ∀ {m : Nat} {t : BT} {bs : List Bool}, t.full m → bs.length = m → (mapT f t).run bs = f (t.run bs)
  | 0, .lf _, _, _, _ => rfl
  | _ + 1, .nd a b, [], _, e => nomatch e
  | m + 1, .nd a b, c :: bs, h, e => by
    cases c
    · show (mapT f a).run bs = f (a.run bs)
      exact mapT_run (m := m) h.1 (by simpa using e)
    · show (mapT f b).run bs = f (b.run bs)
      exact mapT_run (m := m) h.2 (by simpa using e)
  | 0, .nd _ _, _, h, _ => h.elim
  | _ + 1, .lf _, _, h, _ => h.elim
theorem zipT_run {f : Option Bool → Option Bool → Option Bool} : ∀ {m : Nat} {t u : BT} {bs : List Bool}, t.full m → u.full m → bs.length = m → (zipT f t u).run bs = f (t.run bs) (u.run bs)
  | 0, .lf _, .lf _, _, _, _, _ => rfl
  | _ + 1, .nd _ _, .nd _ _, [], _, _, e => nomatch e
  | m + 1, .nd a b, .nd a' b', c :: bs, h, g, e => by
    cases c
    · show (zipT f a a').run bs = f (a.run bs) (a'.run bs)
      exact zipT_run (m := m) h.1 g.1 (by simpa using e)
    · show (zipT f b b').run bs = f (b.run bs) (b'.run bs)
      exact zipT_run (m := m) h.2 g.2 (by simpa using e)
  | 0, .nd _ _, _, _, h, _, _ => h.elim
  | 0, .lf _, .nd _ _, _, _, g, _ => g.elim
  | _ + 1, .lf _, _, _, h, _, _ => h.elim
  | _ + 1, .nd _ _, .lf _, _, _, g, _ => g.elim
def OsOk (os : List Col) : Prop := (∀ c ∈ os, PyData.strOk c.1 = true) ∧ os.length ≤ 10000
end S
namespace S
open PySem PySem.Spec PyProof.Rows L2
end S
-- fn: opposite_truth
-- law: k40
-- deps: rank_of
namespace S
open PySem PySem.Spec PyProof.Rows L2
end S
namespace S
open PySem PySem.Spec PyProof.Rows L2
end S
namespace S
open PySem PySem.Spec PyProof.Rows L2
end S
namespace S
open PySem PySem.Spec PyProof.Rows L2
end S
namespace S
open PySem PySem.Spec PyProof.Rows L2
end S
-- fn: Diagram.__and__ Diagram.__or__ Diagram.__invert__ Diagram.surely
-- law: k52
-- meth: self.joined=Diagram
-- deps: Diagram_joined opposite_truth Lc
namespace S
open PySem PySem.Spec PyProof.Rows L2
end S
-- deps: leaf_table Diagram_ops Qs
/-! ## diagrams of questions -/
namespace S
open PySem PySem.Spec PyProof.Rows L2
/-- the tree of a question -/
def qT (cs os : List Col) : Qs → BT
  | .both q r => zipT ansB (qT cs os q) (qT cs os r)
  | .eith q r => zipT ansE (qT cs os q) (qT cs os r)
  | .opp q => mapT ansO (qT cs os q)
  | .sure q => mapT ansS (qT cs os q)
  | q => lfT cs os q
/-- all parts' diagrams are narrow -/
def narQ (cs os : List Col) : Qs → Prop
  | .both q r => narQ cs os q ∧ narQ cs os r ∧ narrow os.length (zipT ansB (qT cs os q) (qT cs os r))
  | .eith q r => narQ cs os q ∧ narQ cs os r ∧ narrow os.length (zipT ansE (qT cs os q) (qT cs os r))
  | .opp q => narQ cs os q ∧ narrow os.length (mapT ansO (qT cs os q))
  | .sure q => narQ cs os q ∧ narrow os.length (mapT ansS (qT cs os q))
  | q => narrow os.length (lfT cs os q)
/-- leaves over the columns, of tables that fit -/
def okQ (cs os : List Col) : Qs → Prop
  | .both q r => okQ cs os q ∧ okQ cs os r
  | .eith q r => okQ cs os q ∧ okQ cs os r
  | .opp q => okQ cs os q
  | .sure q => okQ cs os q
  | q => q.lfD cs ∧ ∀ T b, q = .atm T b → ∀ i, i ≤ os.length → (pts (cmpS (os.map (wgtC cs T))) (some b) i).length ≤ 1000000
theorem DgA.ins {K : Frag} {H : Hp} {a : Addr} {os : List Col} {t : BT} {q : Prop} (h : DgA K H a os t) (h2 : q) : InD K H "Diagram" a q := by
  obtain ⟨_, _, _, dx, _, _, _, _, h1, _⟩ := h
  exact InD.of h1 h2
def Qs.isLf2 : Qs → Prop
  | .atm _ _ => True
  | .prs _ => True
  | .bit _ _ => True
  | _ => False
end S
namespace S
open PySem PySem.Spec PyProof.Rows L2
end S
-- fn: Answer.__init__
-- law: k46
-- own: BitAnd=Bitmap Sub=Bitmap bool=Bitmap
-- deps: Bs Cmp Nef Bitmap_ops
namespace S
open PySem PySem.Spec PyProof.Rows L2
abbrev AnF (K : Frag) : Prop := DF K "Answer" [] ["rows", "yes", "no"]
/-- yes and no lie apart and within the rows -/
def okA (n : Int) (fR fY fN : Int → Bool) : Prop := ∀ row, 0 ≤ row → row < n → ¬ (fY row = true ∧ fN row = true) ∧ (fY row = true → fR row = true) ∧ (fN row = true → fR row = true)
/-- an answer: its rows, those that answer True, those that answer False -/
def AnA (K : Frag) (H : Hp) (a : Addr) (n : Int) (S : List Int) (fR fY fN : Int → Bool) : Prop := AnF K ∧ Kn S ∧ okA n fR fY fN ∧ ∃ dx r y z, H a = some (.ins (He.ga K "Answer") dx [("rows", .ref r), ("yes", .ref y), ("no", .ref z)]) ∧ Bs K H r n fR S ∧ Bs K H y n fY S ∧ Bs K H z n fN S
theorem AnA.same {K : Frag} {H H' : Hp} {a : Addr} {n : Int} {S : List Int} {fR fY fN : Int → Bool} (h : AnA K H a n S fR fY fN) (e : Same H H') : AnA K H' a n S fR fY fN := by
  obtain ⟨c, k, o, dx, r, y, z, h1, h2, h3, h4⟩ := h
  exact ⟨c, k, o, dx, r, y, z, e _ _ h1, h2.same e, h3.same e, h4.same e⟩
theorem AnA.x {K : Frag} {H H' : Hp} {a st : Addr} {n : Int} {S : List Int} {fR fY fN : Int → Bool} {l : List V} (h : AnA K H a n S fR fY fN) (e : SameX st H H') (hst : H st = some (.lst l)) : AnA K H' a n S fR fY fN := by
  obtain ⟨c, k, o, dx, r, y, z, h1, h2, h3, h4⟩ := h
  exact ⟨c, k, o, dx, r, y, z, e _ _ h1 (ne_of h1 hst fun z => by cases z), h2.x e hst, h3.x e hst, h4.x e hst⟩
end S
namespace S
open PySem PySem.Spec PyProof.Rows L2
end S
namespace S
open PySem PySem.Spec PyProof.Rows L2
end S
namespace S
open PySem PySem.Spec PyProof.Rows L2
end S
namespace S
open PySem PySem.Spec PyProof.Rows L2
end S
namespace S
open PySem PySem.Spec PyProof.Rows L2
end S
namespace S
open PySem PySem.Spec PyProof.Rows L2
end S
-- fn: Answer.unknown Answer.surely Answer.__and__ Answer.__or__ Answer.__invert__ Answer.__eq__
-- law: k46
-- own: BitAnd=Bitmap BitOr=Bitmap Sub=Bitmap Eq=Bitmap
-- deps: Answer_init Bx
namespace S
open PySem PySem.Spec PyProof.Rows L2
section
variable {K : Frag} {H : Hp} {a : Addr} {n : Int} {S : List Int} {fR fY fN : Int → Bool}
end
end S
-- deps: Bs Cmp Nef Answer_ops
/-! ## masks: rows as the bits of a number -/
namespace S
open PySem PySem.Spec PyProof.Rows L2
def bitN (m : Nat) (r : Int) : Bool := m.testBit r.toNat
theorem bit_and (m : Nat) (r : Int) : decide (Builtin.bitAnd ((m : Int) / 2 ^ r.toNat) 1 = 1) = bitN m r := by
  rw [bitAnd_m1]
  unfold bitN
  rw [Nat.testBit_eq_decide_div_mod_eq]
  have : ((m : Int) / 2 ^ r.toNat) % 2 = ((m / 2 ^ r.toNat % 2 : Nat) : Int) := by
    rw [Int.natCast_emod, Int.natCast_ediv, Int.natCast_pow]; rfl
  rw [this]
  by_cases h : m / 2 ^ r.toNat % 2 = 1
  · rw [decide_eq_true h, decide_eq_true (by omega)]
  · rw [decide_eq_false h, decide_eq_false (by omega)]
theorem bit_val (m : Nat) (r : Int) : Builtin.bitAnd ((m : Int) / 2 ^ r.toNat) 1 = if bitN m r = true then 1 else 0 := by
  have h := bit_and m r
  rw [bitAnd_m1] at h ⊢
  by_cases g : bitN m r = true
  · rw [g] at h; rw [if_pos g]; exact of_decide_eq_true h
  · rw [if_neg g]
    have g : bitN m r = false := by simpa using g
    rw [g] at h
    have := of_decide_eq_false h
    omega
/-- the row ahead -/
def preN (m : Nat) : Nat → Bool
  | 0 => false
  | j + 1 => m.testBit j
theorem bit_twice (m j : Nat) : bitN (2 * m) (j : Int) = preN m j := by
  show (2 * m).testBit j = preN m j
  cases j with
  | zero => show (2 * m).testBit 0 = false; rw [Nat.testBit_zero]; simp
  | succ j => show (2 * m).testBit (j + 1) = m.testBit j; rw [Nat.testBit_succ]; congr 1; omega
/-- the ends of a mask's rows -/
def chgE (m n : Nat) : List Int := ((List.range n).filter fun j => m.testBit j != preN m j).map fun j : Nat => (j : Int)
theorem inB_app1 (es : List Int) (x row : Int) : inB (es ++ [x]) row = if x ≤ row then !(inB es row) else inB es row := by
  unfold inB
  rw [List.foldl_append]; rfl
theorem chgE_in (m : Nat) : ∀ n row : Nat, inB (chgE m n) row = if row < n then m.testBit row else preN m n
  | 0, row => by rw [if_neg (Nat.not_lt_zero _)]; rfl
  | n + 1, row => by
    have ih := chgE_in m n row
    have e : chgE m (n + 1) = chgE m n ++ (if (m.testBit n != preN m n) = true then [(n : Int)] else []) := by
      unfold chgE
      rw [List.range_succ, List.filter_append, List.map_append]
      by_cases h : (m.testBit n != preN m n) = true
      · rw [if_pos h]; simp [List.filter_cons, h]
      · rw [if_neg h]; simp [List.filter_cons, h]
    rw [e]
    show _ = if row < n + 1 then m.testBit row else m.testBit n
    by_cases h : (m.testBit n != preN m n) = true
    · rw [if_pos h, inB_app1, ih]
      have h : m.testBit n ≠ preN m n := by simpa using h
      by_cases c : row < n
      · rw [if_pos c, if_neg (by omega), if_pos (by omega)]
      · rw [if_neg c, if_pos (by omega)]
        have hh : (!preN m n) = m.testBit n := by
          cases h1 : m.testBit n <;> cases h2 : preN m n <;> rw [h1, h2] at h <;> first | rfl | exact absurd rfl h
        by_cases g : row < n + 1
        · rw [if_pos g, hh]; congr 1; omega
        · rw [if_neg g, hh]
    · rw [if_neg h, List.append_nil, ih]
      have h : m.testBit n = preN m n := by simpa using h
      by_cases c : row < n
      · rw [if_pos c, if_pos (by omega)]
      · rw [if_neg c]
        by_cases g : row < n + 1
        · rw [if_pos g, ← h]; congr 1; omega
        · rw [if_neg g, h]
theorem chgE_mem {m n : Nat} {z : Int} (h : z ∈ chgE m n) : 0 ≤ z ∧ z < n := by
  obtain ⟨j, hj, rfl⟩ := List.mem_map.mp h
  have := List.mem_range.mp (List.mem_filter.mp hj).1
  omega
theorem chgE_asc (m n : Nat) : (chgE m n).Pairwise (· < ·) := by
  unfold chgE
  rw [List.pairwise_map]
  exact (List.Pairwise.filter _ List.pairwise_lt_range).imp fun h => by omega
theorem chgE_ends (m n : Nat) : Ends (n : Int) (chgE m n) := ⟨chgE_asc m n, fun _ h => chgE_mem h⟩
/-! ### three masks -/
theorem apart {Y N : Nat} : Y &&& N = 0 ↔ ∀ i, ¬ (Y.testBit i = true ∧ N.testBit i = true) := by
  constructor
  · intro h i ⟨g1, g2⟩
    have : (Y &&& N).testBit i = true := by rw [Nat.testBit_and, g1, g2]; rfl
    rw [h, Nat.zero_testBit] at this; cases this
  · intro h
    refine Nat.eq_of_testBit_eq fun i => ?_
    rw [Nat.testBit_and, Nat.zero_testBit]
    have := h i
    revert this
    cases Y.testBit i <;> cases N.testBit i <;> decide
end S
namespace S
open PySem PySem.Spec PyProof.Rows L2
end S
-- fn: _law_run
-- law: k49
-- deps: Tbl
namespace S
open PySem PySem.Spec PyProof.Rows L2
/-- a list of bits -/
def btV (b : Bool) : V := .int (if b then 1 else 0)
end S
-- deps: M46 Lr _law_run
/-! ## the bits of a number, highest first, as a list -/
namespace S
open PySem PySem.Spec PyProof.Rows L2
end S
-- deps: Tbl Bts _law_run
/-! ## twins of tables; runs tell trees apart -/
namespace S
open PySem PySem.Spec PyProof.Rows L2
end S
-- deps: M46 Held L43a Tw
/-! ## bits by place; masks by slice -/
namespace S
open PySem PySem.Spec PyProof.Rows L2
def uS (F : Nat → Bool) : Nat → Int
  | 0 => 0
  | w + 1 => uS F w + b2n (F w) * 2 ^ w
theorem uS_low (F : Nat → Bool) : ∀ w, uS F (w + 1) = b2n (F 0) + 2 * uS (fun i => F (i + 1)) w
  | 0 => by
    show 0 + b2n (F 0) * 2 ^ 0 = b2n (F 0) + 2 * 0
    have : (2 : Int) ^ 0 = 1 := rfl
    rw [this]; omega
  | w + 1 => by
    show uS F (w + 1) + b2n (F (w + 1)) * 2 ^ (w + 1) = b2n (F 0) + 2 * (uS (fun i => F (i + 1)) w + b2n (F (w + 1)) * 2 ^ w)
    rw [uS_low F w]
    have e : (2 : Int) ^ (w + 1) = 2 ^ w * 2 := Int.pow_succ ..
    rw [e, Int.mul_add, ← Int.mul_assoc 2, Int.mul_comm 2 (b2n _), Int.mul_assoc, Int.mul_comm 2 (2 ^ w)]
    omega
theorem twos_uS : ∀ (w : Nat) (F : Nat → Bool), twos ((List.range (w + 1)).map F) = uS F w - b2n (F w) * 2 ^ w
  | 0, F => by
    show -b2n (F 0) = 0 - b2n (F 0) * 2 ^ 0
    have : (2 : Int) ^ 0 = 1 := rfl
    rw [this]; omega
  | w + 1, F => by
    have e : (List.range (w + 2)).map F = F 0 :: ((List.range (w + 1)).map fun i => F (i + 1)) := by
      rw [List.range_succ_eq_map, List.map_cons, List.map_map]; rfl
    rw [e]
    have ih := twos_uS w fun i => F (i + 1)
    have h2 : twos (F 0 :: ((List.range (w + 1)).map fun i => F (i + 1))) = b2n (F 0) + 2 * twos ((List.range (w + 1)).map fun i => F (i + 1)) := by
      have ne : ((List.range (w + 1)).map fun i => F (i + 1)) ≠ [] := by simp
      cases h : ((List.range (w + 1)).map fun i => F (i + 1)) with
      | nil => exact absurd h ne
      | cons x r => rfl
    rw [h2, ih, uS_low F w]
    have e : (2 : Int) ^ (w + 1) = 2 ^ w * 2 := Int.pow_succ ..
    rw [e, Int.mul_sub, ← Int.mul_assoc (b2n (F (w + 1))) (2 ^ w) 2, Int.mul_comm _ 2]
    omega
/-- the mask of a slice -/
def mkL : List Col → List Nat → Col → Nat
  | s :: S, m :: ms, c => if s = c then m else mkL S ms c
  | _, _, _ => 0
theorem mkL_at : ∀ {S : List Col} {ms : List Nat} {j : Nat} {c : Col} {m : Nat}, S.Nodup → S[j]? = some c → ms[j]? = some m → mkL S ms c = m
  | [], _, _, _, _, _, h, _ => by simp at h
  | _ :: _, [], _, _, _, _, _, h => by simp at h
  | s :: S, e :: Es, 0, c, es, _, h1, h2 => by
    rw [List.getElem?_cons_zero] at h1 h2
    cases h1
    cases h2
    show (if s = s then e else _) = e
    rw [if_pos rfl]
  | s :: S, e :: Es, j + 1, c, es, nd, h1, h2 => by
    rw [List.getElem?_cons_succ] at h1 h2
    obtain ⟨n1, n2⟩ := List.pairwise_cons.mp nd
    show (if s = c then e else mkL S Es c) = es
    rw [if_neg (n1 c (List.mem_of_getElem? h1))]
    exact mkL_at n2 h1 h2
end S
-- deps: Pdg K50m M44 Column_shift
/-! ## the runs of a question's tree are its answers -/
namespace S
open PySem PySem.Spec PyProof.Rows L2
/-- a question over the columns -/
def Qs.gd (cs : List Col) : Qs → Prop
  | .atm T _ => (nmT T).Nodup ∧ ∀ t ∈ T, ∃ w, (t.1, w) ∈ cs
  | .prs z => ∃ w, (z, w) ∈ cs
  | .bit z p => (∃ w, (z, w) ∈ cs) ∧ 0 ≤ p
  | .both q r => q.gd cs ∧ r.gd cs
  | .eith q r => q.gd cs ∧ r.gd cs
  | .opp q => q.gd cs
  | .sure q => q.gd cs
theorem drop_consG {α : Type} {l : List α} {i : Nat} {x : α} (h : l[i]? = some x) : l.drop i = x :: l.drop (i + 1) := by
  obtain ⟨g1, g2⟩ := List.getElem?_eq_some_iff.mp h
  rw [List.drop_eq_getElem_cons g1, g2]
/-! ### one bit -/
def bitE : Ends3 := [some false, some true]
theorem bit_run {m j : Nat} (hj : j < m) : ∀ d i (bs : List Bool), i + d = m → bs.length = d →
    (i ≤ j → (gT (trees ((bitL m j).drop i) bitE) 0).run bs = some (bs.getD (j - i) false)) ∧
    (j < i → (gT (trees ((bitL m j).drop i) bitE) 0).run bs = some false ∧ (gT (trees ((bitL m j).drop i) bitE) 1).run bs = some true)
  | 0, i, bs, e, lb => by
    have : i = m := by omega
    subst this
    rw [List.drop_of_length_le (by rw [bitL_len]; exact Nat.le_refl _)]
    rw [List.eq_nil_of_length_eq_zero lb]
    exact ⟨fun h => by omega, fun _ => ⟨rfl, rfl⟩⟩
  | d + 1, i, [], e, lb => nomatch lb
  | d + 1, i, b :: bs, e, lb0 => by
    have lb : bs.length = d := by simpa using lb0
    clear lb0
    have ih := bit_run hj d (i + 1) bs (by omega) lb
    have il : i < m := by omega
    rw [drop_cons (bitL_get il)]
    generalize hT : trees ((bitL m j).drop (i + 1)) bitE = T at ih
    by_cases ej : i = j
    · rw [if_pos ej]
      refine ⟨fun _ => ?_, fun h => by omega⟩
      obtain ⟨h1, h2⟩ := ih.2 (by omega)
      show (BT.nd (gT (trees ((bitL m j).drop (i + 1)) bitE) 0) (gT (trees ((bitL m j).drop (i + 1)) bitE) 1)).run (b :: bs) = _
      rw [hT, show j - i = 0 from by omega]
      cases b
      · exact h1
      · exact h2
    · rw [if_neg ej]
      by_cases g : j < i
      · rw [if_pos g]
        refine ⟨fun h => by omega, fun _ => ?_⟩
        obtain ⟨h1, h2⟩ := ih.2 (by omega)
        show (BT.nd (gT (trees ((bitL m j).drop (i + 1)) bitE) 0) (gT (trees ((bitL m j).drop (i + 1)) bitE) 0)).run (b :: bs) = _ ∧ (BT.nd (gT (trees ((bitL m j).drop (i + 1)) bitE) 1) (gT (trees ((bitL m j).drop (i + 1)) bitE) 1)).run (b :: bs) = _
        rw [hT]
        cases b <;> exact ⟨h1, h2⟩
      · rw [if_neg g]
        refine ⟨fun _ => ?_, fun h => absurd h g⟩
        have h1 := ih.1 (by omega)
        show (BT.nd (gT (trees ((bitL m j).drop (i + 1)) bitE) 0) (gT (trees ((bitL m j).drop (i + 1)) bitE) 0)).run (b :: bs) = _
        rw [hT, show j - i = (j - (i + 1)) + 1 from by omega, List.getD_cons_succ]
        cases b <;> exact h1
theorem bitR_run {m j : Nat} {bs : List Bool} (hj : j < m) (lb : bs.length = m) : (bitR m j).run bs = some (bs.getD j false) := by
  have h := (bit_run hj m 0 bs (by omega) lb).1 (Nat.zero_le _)
  rw [List.drop_zero, Nat.sub_zero] at h
  exact h
theorem bitR_full {m j : Nat} (hj : j < m) : (bitR m j).full m := by
  obtain ⟨h1, h2, _⟩ := bit_facts hj
  have h := trees_full h1 (bitR m j) (gT_mem (by rw [trees_len, h2]; exact Nat.one_pos))
  rw [bitL_len] at h; exact h
/-! ### a comparison -/
def nonB : List (Option Int) → List Bool → Bool
  | none :: l, b :: bs => !b || nonB l bs
  | some _ :: l, _ :: bs => nonB l bs
  | _, _ => false
def sumW : List (Option Int) → List Bool → Int
  | none :: l, _ :: bs => sumW l bs
  | some w :: l, b :: bs => (if b then w else 0) + sumW l bs
  | _, _ => 0
theorem sumW_bd : ∀ (l : List (Option Int)) (bs : List Bool), rLo l ≤ sumW l bs ∧ sumW l bs ≤ rHi l
  | [], bs => by unfold sumW; exact ⟨Int.le_refl _, Int.le_refl _⟩
  | none :: l, [] => by
    have h := sumW_bd l []
    have e : sumW l [] = 0 := by cases l with | nil => rfl | cons a _ => cases a <;> rfl
    rw [e] at h
    exact h
  | some w :: l, [] => by
    have h := sumW_bd l []
    have e : sumW l [] = 0 := by cases l with | nil => rfl | cons a _ => cases a <;> rfl
    rw [e] at h
    show rLo l + min 0 w ≤ 0 ∧ 0 ≤ rHi l + max 0 w
    omega
  | none :: l, b :: bs => sumW_bd l bs
  | some w :: l, b :: bs => by
    have h := sumW_bd l bs
    show rLo l + min 0 w ≤ (if b then w else 0) + sumW l bs ∧ (if b then w else 0) + sumW l bs ≤ rHi l + max 0 w
    cases b
    · show rLo l + min 0 w ≤ 0 + sumW l bs ∧ 0 + sumW l bs ≤ rHi l + max 0 w; omega
    · show rLo l + min 0 w ≤ w + sumW l bs ∧ w + sumW l bs ≤ rHi l + max 0 w; omega
def cmpV (l : List (Option Int)) (bs : List Bool) (v : Int) : Option Bool := if nonB l bs = true then none else some (decide (sumW l bs ≤ v))
theorem cmpV_clip (l : List (Option Int)) (bs : List Bool) (v : Int) : cmpV l bs (max (rLo l - 1) (min v (rHi l))) = cmpV l bs v := by
  have h := sumW_bd l bs
  unfold cmpV
  split
  · rfl
  · congr 1
    exact decide_eq_decide.mpr (by omega)
theorem cmp_none (ws : List (Option Int)) : ∀ d i (bs : List Bool), bs.length = d → (unfT (cmpS ws) cmpE d i none).run bs = none
  | 0, i, bs, lb => by rw [List.eq_nil_of_length_eq_zero lb]; rfl
  | d + 1, i, [], lb => nomatch lb
  | d + 1, i, b :: bs, lb0 => by
    have lb : bs.length = d := by simpa using lb0
    clear lb0
    have ih := cmp_none ws d (i + 1) bs lb
    have e : cmpS ws i none = (none, none) := rfl
    show (BT.nd (unfT (cmpS ws) cmpE d (i + 1) (cmpS ws i none).1) (unfT (cmpS ws) cmpE d (i + 1) (cmpS ws i none).2)).run (b :: bs) = none
    rw [e]
    cases b <;> exact ih
theorem cmp_run (ws : List (Option Int)) : ∀ d i (bs : List Bool) (v : Int), i + d = ws.length → bs.length = d → (unfT (cmpS ws) cmpE d i (some v)).run bs = cmpV (ws.drop i) bs v
  | 0, i, bs, v, e, lb => by
    rw [List.eq_nil_of_length_eq_zero lb, List.drop_of_length_le (by omega)]
    show some (decide (v ≥ 0)) = some (decide (0 ≤ v))
    rfl
  | d + 1, i, [], v, e, lb => nomatch lb
  | d + 1, i, b :: bs, v, e, lb0 => by
    have lb : bs.length = d := by simpa using lb0
    clear lb0
    have il : i < ws.length := by omega
    have ih := fun v => cmp_run ws d (i + 1) bs v (by omega) lb
    have g : ws[i]? = some ws[i] := List.getElem?_eq_getElem il
    show (BT.nd (unfT (cmpS ws) cmpE d (i + 1) (cmpS ws i (some v)).1) (unfT (cmpS ws) cmpE d (i + 1) (cmpS ws i (some v)).2)).run (b :: bs) = _
    rw [drop_consG g]
    have eS : cmpS ws i (some v) = nxS (rLo (ws.drop (i + 1))) (rHi (ws.drop (i + 1))) (some v) ws[i] := by
      unfold cmpS
      rw [List.getD_eq_getElem?_getD, g]; rfl
    rw [eS]
    generalize ws[i] = w
    cases w with
    | none =>
      cases b
      · exact cmp_none ws d (i + 1) bs lb
      · show (unfT (cmpS ws) cmpE d (i + 1) (some (max (rLo (ws.drop (i + 1)) - 1) (min v (rHi (ws.drop (i + 1))))))).run bs = _
        rw [ih, cmpV_clip]; rfl
    | some w =>
      cases b
      · show (unfT (cmpS ws) cmpE d (i + 1) (some (max (rLo (ws.drop (i + 1)) - 1) (min v (rHi (ws.drop (i + 1))))))).run bs = _
        rw [ih, cmpV_clip]
        unfold cmpV
        show (if nonB (ws.drop (i + 1)) bs = true then none else some (decide (sumW (ws.drop (i + 1)) bs ≤ v))) = if nonB (ws.drop (i + 1)) bs = true then none else some (decide (0 + sumW (ws.drop (i + 1)) bs ≤ v))
        rw [Int.zero_add]
      · show (unfT (cmpS ws) cmpE d (i + 1) (some (max (rLo (ws.drop (i + 1)) - 1) (min (v - w) (rHi (ws.drop (i + 1))))))).run bs = _
        rw [ih, cmpV_clip]
        unfold cmpV
        show (if nonB (ws.drop (i + 1)) bs = true then none else some (decide (sumW (ws.drop (i + 1)) bs ≤ v - w))) = if nonB (ws.drop (i + 1)) bs = true then none else some (decide (w + sumW (ws.drop (i + 1)) bs ≤ v))
        have ed : decide (sumW (ws.drop (i + 1)) bs ≤ v - w) = decide (w + sumW (ws.drop (i + 1)) bs ≤ v) := decide_eq_decide.mpr (by omega)
        rw [ed]
/-! ### the row that bits write -/
def bAt (os : List Col) (bs : List Bool) (c : Col) : Bool := bs.getD (ixF os c) false
def numB (os : List Col) (bs : List Bool) (z : Str) (w : Int) : Int := twos ((List.range w.toNat).map fun i : Nat => bAt os bs (z, (i : Int)))
def rowB (cs os : List Col) (bs : List Bool) : Row := cs.map fun c => (c.1, if bAt os bs (c.1, -1) = true then some (numB os bs c.1 c.2) else none)
theorem rowB_lk {os : List Col} {bs : List Bool} : ∀ {ds : List Col} {z : Str} {w : Int}, (ds.map fun c => c.1).Nodup → (z, w) ∈ ds → lkR (rowB ds os bs) z = some (if bAt os bs (z, -1) = true then some (numB os bs z w) else none)
  | d :: ds, z, w, nd, h => by
    obtain ⟨h1, h2⟩ := List.nodup_cons.mp nd
    show (if d.1 = z then some _ else lkR (rowB ds os bs) z) = _
    rcases List.mem_cons.mp h with rfl | h
    · rw [if_pos rfl]
    · rw [if_neg fun e => h1 (by show d.1 ∈ _; rw [e]; exact List.mem_map.mpr ⟨_, h, rfl⟩), rowB_lk h2 h]
/-- a sum over slices -/
def sI (g : Col → Int) : List Col → Int
  | [] => 0
  | c :: cs => g c + sI g cs
theorem sI_perm {g : Col → Int} {a b : List Col} (h : a.Perm b) : sI g a = sI g b := by
  induction h with
  | nil => rfl
  | cons x _ ih => show g x + _ = g x + _; rw [ih]
  | swap x y l => show g y + (g x + _) = g x + (g y + _); omega
  | trans _ _ h1 h2 => rw [h1, h2]
theorem sI_app {g : Col → Int} : ∀ {a b : List Col}, sI g (a ++ b) = sI g a + sI g b
  | [], b => by show sI g b = 0 + sI g b; omega
  | x :: a, b => by show g x + sI g (a ++ b) = g x + sI g a + sI g b; rw [sI_app]; omega
theorem sI_flat {g : Col → Int} {f : Col → List Col} : ∀ {a : List Col}, sI g (a.flatMap f) = sI (fun c => sI g (f c)) a
  | [] => rfl
  | x :: a => by
    rw [List.flatMap_cons, sI_app, sI_flat]; rfl
theorem sI_congr {g h : Col → Int} : ∀ {a : List Col}, (∀ c ∈ a, g c = h c) → sI g a = sI h a
  | [], _ => rfl
  | x :: a, e => by
    show g x + _ = h x + _
    rw [e x List.mem_cons_self, sI_congr fun c hc => e c (List.mem_cons_of_mem _ hc)]
theorem sI_zero : ∀ {a : List Col}, sI (fun _ => 0) a = 0
  | [] => rfl
  | x :: a => by show 0 + sI (fun _ => 0) a = 0; rw [sI_zero]; rfl
theorem sI_add {g h : Col → Int} : ∀ {a : List Col}, sI (fun c => g c + h c) a = sI g a + sI h a
  | [] => rfl
  | x :: a => by show g x + h x + sI (fun c => g c + h c) a = g x + sI g a + (h x + sI h a); rw [sI_add]; omega
/-- one column alone -/
theorem sI_one {g : Col → Int} {z : Str} {w : Int} : ∀ {a : List Col}, (a.map fun c => c.1).Nodup → (z, w) ∈ a → sI (fun c => if c.1 = z then g c else 0) a = g (z, w)
  | x :: a, nd, h => by
    obtain ⟨h1, h2⟩ := List.nodup_cons.mp nd
    show (if x.1 = z then g x else 0) + sI (fun c => if c.1 = z then g c else 0) a = _
    rcases List.mem_cons.mp h with rfl | h
    · have e : sI (fun c => if c.1 = z then g c else 0) a = 0 := by
        rw [sI_congr (h := fun _ => 0) fun c hc => if_neg fun e => h1 (by show z ∈ _; rw [← e]; exact List.mem_map.mpr ⟨c, hc, rfl⟩)]
        exact sI_zero
      rw [if_pos rfl, e]; omega
    · rw [if_neg fun e => h1 (by show x.1 ∈ _; rw [e]; exact List.mem_map.mpr ⟨_, h, rfl⟩), sI_one h2 h]; omega
/-- the sum of a list of weights in an order -/
def gW (f : Col → Option Int) (os : List Col) (bs : List Bool) (c : Col) : Int := if bAt os bs c = true then (f c).getD 0 else 0
theorem ixF_self : ∀ {l : List Col} {j : Nat} {c : Col}, l.Nodup → l[j]? = some c → ixF l c = j
  | x :: l, 0, c, nd, h => by
    rw [List.getElem?_cons_zero] at h
    cases h
    rw [ixF_cons, if_pos rfl]
  | x :: l, j + 1, c, nd, h => by
    obtain ⟨h1, h2⟩ := List.nodup_cons.mp nd
    rw [List.getElem?_cons_succ] at h
    rw [ixF_cons, if_neg fun e => h1 (by rw [e]; exact List.mem_of_getElem? h), ixF_self h2 h]
theorem sumW_os (f : Col → Option Int) {os : List Col} {bs : List Bool} (nd : os.Nodup) (lb : bs.length = os.length) : ∀ d i, i + d = os.length →
    sumW ((os.drop i).map f) (bs.drop i) = sI (gW f os bs) (os.drop i) ∧ (nonB ((os.drop i).map f) (bs.drop i) = true ↔ ∃ c ∈ os.drop i, f c = none ∧ bAt os bs c = false)
  | 0, i, e => by
    rw [List.drop_of_length_le (by omega), List.drop_of_length_le (by omega)]
    exact ⟨rfl, by simp [nonB]⟩
  | d + 1, i, e => by
    obtain ⟨h1, h2⟩ := sumW_os f nd lb d (i + 1) (by omega)
    have il : i < os.length := by omega
    have g : os[i]? = some os[i] := List.getElem?_eq_getElem il
    have gb : bs[i]? = some (bs[i]'(by omega)) := List.getElem?_eq_getElem _
    generalize hb : bs[i]'(by omega) = b at gb
    generalize hc : os[i] = c at g
    have eb : bAt os bs c = b := by
      unfold bAt
      rw [ixF_self nd g, List.getD_eq_getElem?_getD, gb]; rfl
    rw [drop_consG g, drop_consG gb, List.map_cons]
    have eg : gW f os bs c = if b = true then (f c).getD 0 else 0 := by unfold gW; rw [eb]
    cases hf : f c with
    | none =>
      refine ⟨?_, ?_⟩
      · show sumW ((os.drop (i + 1)).map f) (bs.drop (i + 1)) = gW f os bs c + sI (gW f os bs) (os.drop (i + 1))
        rw [h1, eg, hf]
        show _ = (if b = true then 0 else 0) + _
        rw [ite_self]; omega
      · show (!b || nonB ((os.drop (i + 1)).map f) (bs.drop (i + 1))) = true ↔ _
        rw [Bool.or_eq_true, h2]
        constructor
        · rintro (h | ⟨c2, m, h⟩)
          · exact ⟨c, List.mem_cons_self, hf, by rw [eb]; simpa using h⟩
          · exact ⟨c2, List.mem_cons_of_mem _ m, h⟩
        · rintro ⟨c2, m, h3, h4⟩
          rcases List.mem_cons.mp m with rfl | m
          · rw [eb] at h4; exact .inl (by rw [h4]; rfl)
          · exact .inr ⟨c2, m, h3, h4⟩
    | some w =>
      refine ⟨?_, ?_⟩
      · show (if b = true then w else 0) + sumW ((os.drop (i + 1)).map f) (bs.drop (i + 1)) = gW f os bs c + sI (gW f os bs) (os.drop (i + 1))
        rw [h1, eg, hf]; rfl
      · show nonB ((os.drop (i + 1)).map f) (bs.drop (i + 1)) = true ↔ _
        rw [h2]
        constructor
        · rintro ⟨c2, m, h⟩; exact ⟨c2, List.mem_cons_of_mem _ m, h⟩
        · rintro ⟨c2, m, h3, h4⟩
          rcases List.mem_cons.mp m with rfl | m
          · rw [hf] at h3; cases h3
          · exact ⟨c2, m, h3, h4⟩
end S
-- deps: Rnq Tw Sl Held
/-! ## the runs of a question's tree are its answers, the rest -/
namespace S
open PySem PySem.Spec PyProof.Rows L2
theorem OrdOk.perm {cs os : List Col} (nd : (cs.map fun c => c.1).Nodup) (oo : OrdOk cs os) : os.Perm (slicesOf cs) :=
  (List.perm_ext_iff_of_nodup oo.nd (slicesOf_nodup nd)).mpr fun c => by
    rw [oo.mem, slicesOf_mem]
    constructor
    · rintro ⟨w, hw, h1, h2⟩; exact ⟨(c.1, w), hw, rfl, h1, h2⟩
    · rintro ⟨d, hd, h1, h2, h3⟩; exact ⟨d.2, by rw [h1]; exact hd, h2, h3⟩
theorem sI_range (g : Nat → Int) (z : Str) : ∀ (h : Col → Int) (k : Nat), (∀ j, j < k → h (z, -1 + (j : Int)) = g j) → sI h (slicesC (z, 0) k) = (List.range k).foldl (fun a j => a + g j) 0
  | h, 0, _ => rfl
  | h, k + 1, e => by
    have e2 : slicesC (z, 0) (k + 1) = slicesC (z, 0) k ++ [(z, -1 + (k : Int))] := slicesC_succ _ _
    rw [e2, sI_app, sI_range g z h k fun j hj => e j (by omega), List.range_succ, List.foldl_append]
    show _ + (h (z, -1 + (k : Int)) + 0) = _ + g k
    rw [e k (by omega)]; omega
/-- the places of a column, weighted -/
theorem uS_mul (F : Nat → Bool) (f : Int) : ∀ k : Nat, (List.range (k + 1)).foldl (fun a j => a + (match j with | 0 => 0 | i + 1 => if F i = true then f * 2 ^ i else 0)) 0 = f * uS F k
  | 0 => by
    show (0 : Int) + 0 = f * 0
    rw [Int.mul_zero]; rfl
  | k + 1 => by
    rw [List.range_succ, List.foldl_append, uS_mul F f k]
    show f * uS F k + (if F k = true then f * 2 ^ k else 0) = f * (uS F k + b2n (F k) * 2 ^ k)
    rw [Int.mul_add]
    cases F k
    · show _ + 0 = _ + f * (0 * 2 ^ k)
      rw [Int.zero_mul, Int.mul_zero]
    · show _ + f * 2 ^ k = _ + f * (1 * 2 ^ k)
      rw [Int.one_mul]
theorem col_sum {cs os : List Col} {bs : List Bool} {T : Tms} {z : Str} {w : Int} (hw : lkT cs z = some w) (w1 : 1 ≤ w) : sI (gW (wgtC cs T) os bs) (slicesC (z, 0) (w + 1).toNat) = match lkT T z with | none => 0 | some f => f * numB os bs z w := by
  obtain ⟨n, rfl⟩ : ∃ n : Nat, w = (n : Int) + 1 := ⟨(w - 1).toNat, by omega⟩
  have en : ((n : Int) + 1 + 1).toNat = n + 1 + 1 := by omega
  rw [en]
  cases hf : lkT T z with
  | none =>
    rw [sI_range (fun _ => 0) z _ _ fun j _ => by
      unfold gW wgtC
      dsimp only
      rw [hf]
      exact ite_self _]
    have : ∀ l : List Nat, l.foldl (fun (a : Int) _ => a + 0) 0 = 0 := fun l => by
      induction l with
      | nil => rfl
      | cons x l ih => exact ih
    exact this _
  | some f =>
    obtain ⟨F, hF⟩ : ∃ F : Nat → Bool, F = fun i : Nat => bAt os bs (z, (i : Int)) := ⟨_, rfl⟩
    have eN : numB os bs z ((n : Int) + 1) = uS F n - b2n (F n) * 2 ^ n := by
      unfold numB
      rw [show ((n : Int) + 1).toNat = n + 1 from by omega, ← twos_uS, hF]
    rw [eN]
    have step : ∀ j, j < n + 1 → gW (wgtC cs T) os bs (z, -1 + (j : Int)) = (match j with | 0 => 0 | i + 1 => if F i = true then f * 2 ^ i else 0) := fun j hj => by
      unfold gW wgtC
      dsimp only
      rw [hf, hw]
      cases j with
      | zero => exact ite_self _
      | succ i =>
        have e1 : (-1 + ((i + 1 : Nat) : Int)) = (i : Int) := by omega
        rw [e1]
        dsimp only
        rw [if_neg (show ¬ (i : Int) < 0 by omega)]
        rw [if_neg (show ¬ (i : Int) + 1 = ((some ((n : Int) + 1)).getD 0) by show ¬ (i : Int) + 1 = (n : Int) + 1; omega), hF]
        rfl
    have e2 : slicesC (z, 0) (n + 1 + 1) = slicesC (z, 0) (n + 1) ++ [(z, -1 + ((n + 1 : Nat) : Int))] := slicesC_succ _ _
    rw [e2, sI_app, sI_range _ z _ _ step, uS_mul]
    show f * uS F n + (gW (wgtC cs T) os bs (z, -1 + ((n + 1 : Nat) : Int)) + 0) = f * (uS F n - b2n (F n) * 2 ^ n)
    have e1 : (-1 + ((n + 1 : Nat) : Int)) = (n : Int) := by omega
    rw [e1]
    have e3 : gW (wgtC cs T) os bs (z, (n : Int)) = if F n = true then f * -(2 ^ n) else 0 := by
      unfold gW wgtC
      dsimp only
      rw [hf, hw]
      dsimp only
      rw [if_neg (show ¬ (n : Int) < 0 by omega), if_pos (show (n : Int) + 1 = ((some ((n : Int) + 1)).getD 0) from rfl), hF]
      rfl
    rw [e3, Int.mul_sub]
    cases F n
    · show _ + (0 + 0) = _ - f * (0 * 2 ^ n)
      rw [Int.zero_mul, Int.mul_zero]; omega
    · show _ + (f * -(2 ^ n) + 0) = _ - f * (1 * 2 ^ n)
      rw [Int.one_mul, Int.mul_neg]; omega
/-- the terms, one by one -/
def sT (num : Str → Int) : Tms → Int
  | [] => 0
  | t :: T => t.2 * num t.1 + sT num T
theorem tm_sum {cs : List Col} (nd : (cs.map fun c => c.1).Nodup) (num : Str → Int → Int) (n2 : Str → Int) (hn : ∀ z w, (z, w) ∈ cs → n2 z = num z w) : ∀ {T : Tms}, (nmT T).Nodup → (∀ t ∈ T, ∃ w, (t.1, w) ∈ cs) →
    sI (fun c => match lkT T c.1 with | none => 0 | some f => f * num c.1 c.2) cs = sT n2 T
  | [], _, _ => sI_zero
  | t :: T, nt, hk => by
    obtain ⟨h1, h2⟩ := List.nodup_cons.mp nt
    obtain ⟨w, hw⟩ := hk t List.mem_cons_self
    have ih := tm_sum nd num n2 hn h2 fun u hu => hk u (List.mem_cons_of_mem _ hu)
    have e1 : lkT T t.1 = none := lkT_none h1
    rw [sI_congr (h := fun c => (if c.1 = t.1 then t.2 * num c.1 c.2 else 0) + (match lkT T c.1 with | none => 0 | some f => f * num c.1 c.2)) fun c hc => ?_]
    · rw [sI_add, sI_one (g := fun c => t.2 * num c.1 c.2) nd hw, ih]
      show t.2 * num t.1 w + sT n2 T = t.2 * n2 t.1 + sT n2 T
      rw [hn _ _ hw]
    · show (match (if t.1 = c.1 then some t.2 else lkT T c.1) with | none => 0 | some f => f * num c.1 c.2) = _
      by_cases e : c.1 = t.1
      · rw [if_pos e.symm, if_pos e, e, e1]
        show t.2 * _ = t.2 * _ + 0
        omega
      · rw [if_neg fun z => e z.symm, if_neg e]
        show _ = 0 + _
        omega
theorem valT_all {R : Row} {n2 : Str → Int} : ∀ {T : Tms} {w : Int}, (∀ t ∈ T, lkR R t.1 = some (some (n2 t.1))) → valT R T w = some (w + sT n2 T)
  | [], w, _ => by show some w = some (w + 0); rw [Int.add_zero]
  | t :: T, w, h => by
    show (match lkR R t.1 with | some (some c) => valT R T (w + t.2 * c) | _ => none) = _
    rw [h t List.mem_cons_self]
    show valT R T (w + t.2 * n2 t.1) = _
    rw [valT_all fun u hu => h u (List.mem_cons_of_mem _ hu)]
    show some (w + t.2 * n2 t.1 + sT n2 T) = some (w + (t.2 * n2 t.1 + sT n2 T))
    rw [Int.add_assoc]
theorem valT_no {R : Row} : ∀ {T : Tms} {w : Int} {t : Col}, t ∈ T → lkR R t.1 = some none → valT R T w = none
  | u :: T, w, t, h, g => by
    show (match lkR R u.1 with | some (some c) => valT R T (w + u.2 * c) | _ => none) = _
    rcases List.mem_cons.mp h with rfl | h
    · rw [g]
    · cases lkR R u.1 with
      | none => rfl
      | some o => cases o with
        | none => rfl
        | some c => exact valT_no h g
theorem twos_bitD {bs : List Bool} (h : bs ≠ []) (k : Nat) : decide ((twos bs / 2 ^ k) % 2 = 1) = bs.getD (min k (bs.length - 1)) false := by
  rw [← twos_shr h k]
  have hl : bs.length ≠ 0 := fun z => h (List.eq_nil_of_length_eq_zero z)
  have jl : min k (bs.length - 1) < bs.length := by omega
  generalize min k (bs.length - 1) = j at jl
  have g : bs[j]? = some bs[j] := List.getElem?_eq_getElem jl
  rw [drop_consG g, List.getD_eq_getElem?_getD, g]
  generalize bs[j] = b
  show _ = b
  cases hd : bs.drop (j + 1) with
  | nil => cases b <;> decide
  | cons x r =>
    rw [twos_cons b (by simp)]
    cases b
    · exact decide_eq_false (by show ¬ ((0 : Int) + 2 * twos (x :: r)) % 2 = 1; omega)
    · exact decide_eq_true (by show ((1 : Int) + 2 * twos (x :: r)) % 2 = 1; omega)
theorem lfT_full {cs os : List Col} (oo : OrdOk cs os) (gc : ∀ c ∈ cs, 1 ≤ c.2) (nd : (cs.map fun c => c.1).Nodup) {q : Qs} (h : q.lfD cs) : (lfT cs os q).full os.length := by
  have ix : ∀ c, c ∈ os → ixF os c < os.length := fun c hc => ixF_lt hc
  cases q with
  | atm T b => exact unfT_full _ _ _
  | prs z =>
    obtain ⟨w, hw⟩ := h
    exact bitR_full (ix _ ((oo.mem _).mpr ⟨w, hw, Int.le_refl _, by have := gc _ hw; show (-1 : Int) < w; have : 1 ≤ w := this; omega⟩))
  | bit z p =>
    obtain ⟨⟨w, hw⟩, p0⟩ := h
    have w1 : 1 ≤ w := gc _ hw
    have ew : wOf cs z = w := by unfold wOf; rw [lkT_mem nd hw]; rfl
    refine zipT_full (bitR_full (ix _ ((oo.mem _).mpr ⟨w, hw, Int.le_refl _, by show (-1 : Int) < w; omega⟩))) (bitR_full (ix _ ((oo.mem _).mpr ⟨w, hw, ?_, ?_⟩)))
    · show -1 ≤ min p (wOf cs z - 1); rw [ew]; omega
    · show min p (wOf cs z - 1) < w; rw [ew]; omega
  | _ => exact h.elim
theorem Qs.gd_lf {cs : List Col} {q : Qs} (h : q.gd cs) : q.isLf2 → q.lfD cs := by
  cases q with
  | atm T b => exact fun _ => h.2
  | prs z => exact fun _ => h
  | bit z p => exact fun _ => h
  | _ => exact fun z => z.elim
theorem lfT_run {cs os : List Col} (oo : OrdOk cs os) (gc : ∀ c ∈ cs, 1 ≤ c.2) (nd : (cs.map fun c => c.1).Nodup) {q : Qs} (h : q.gd cs) (lf : q.isLf2) {bs : List Bool} (lb : bs.length = os.length) : (lfT cs os q).run bs = ans (rowB cs os bs) q := by
  have pm : ∀ z w, (z, w) ∈ cs → ((z, -1) : Col) ∈ os := fun z w hw => (oo.mem _).mpr ⟨w, hw, Int.le_refl _, by have : 1 ≤ w := gc _ hw; show (-1 : Int) < w; omega⟩
  cases q with
  | atm T b =>
    obtain ⟨nt, hk⟩ := h
    have h1 := cmp_run (os.map (wgtC cs T)) os.length 0 bs b (by rw [List.length_map]; omega) lb
    rw [List.drop_zero] at h1
    show (unfT _ _ _ _ _).run bs = (valT (rowB cs os bs) T 0).map _
    rw [h1]
    obtain ⟨h2, h3⟩ := sumW_os (wgtC cs T) oo.nd lb os.length 0 (by omega)
    rw [List.drop_zero, List.drop_zero] at h2 h3
    unfold cmpV
    by_cases hn : nonB (os.map (wgtC cs T)) bs = true
    · rw [if_pos hn]
      obtain ⟨c, hc, e1, e2⟩ := h3.mp hn
      obtain ⟨z, p⟩ := c
      have e1 : (match lkT T z with | none => some 0 | some f => if p < 0 then none else some (f * (if p + 1 = (lkT cs z).getD 0 then -(2 ^ p.toNat) else 2 ^ p.toNat))) = none := e1
      cases hf : lkT T z with
      | none => rw [hf] at e1; cases e1
      | some f =>
        rw [hf] at e1
        have e1 : (if p < 0 then none else some (f * (if p + 1 = (lkT cs z).getD 0 then -(2 ^ p.toNat) else 2 ^ p.toNat))) = none := e1
        have p0 : p < 0 := by
          by_cases g : p < 0
          · exact g
          · rw [if_neg g] at e1; cases e1
        obtain ⟨w, hw, q1, q2⟩ := (oo.mem _).mp hc
        have q1 : -1 ≤ p := q1
        have ep : p = -1 := by omega
        subst ep
        have hr := rowB_lk (os := os) (bs := bs) nd hw
        rw [e2, if_neg Bool.false_ne_true] at hr
        rw [valT_no (lkT_some hf) hr]; rfl
    · rw [if_neg hn, h2]
      have hall : ∀ t ∈ T, lkR (rowB cs os bs) t.1 = some (some (numB os bs t.1 (wOf cs t.1))) := fun t ht => by
        obtain ⟨w, hw⟩ := hk t ht
        have ew : wOf cs t.1 = w := by unfold wOf; rw [lkT_mem nd hw]; rfl
        have hb : bAt os bs (t.1, -1) = true := by
          by_cases hb : bAt os bs (t.1, -1) = true
          · exact hb
          · refine absurd (h3.mpr ⟨(t.1, -1), pm _ _ hw, ?_, by simpa using hb⟩) hn
            unfold wgtC
            dsimp only
            rw [lkT_mem nt ht]
            rfl
        rw [rowB_lk nd hw, if_pos hb, ew]
      rw [valT_all (n2 := fun z => numB os bs z (wOf cs z)) hall]
      have e1 : sI (gW (wgtC cs T) os bs) os = sT (fun z => numB os bs z (wOf cs z)) T := by
        rw [sI_perm (oo.perm nd)]
        show sI _ (cs.flatMap fun c => slicesC c (c.2 + 1).toNat) = _
        rw [sI_flat, ← tm_sum nd (fun z w => numB os bs z w) _ (fun z w hw => by unfold wOf; rw [lkT_mem nd hw]; rfl) nt hk]
        refine sI_congr fun c hc => ?_
        obtain ⟨z, w⟩ := c
        have hz : slicesC (z, w) (w + 1).toNat = slicesC (z, 0) (w + 1).toNat := rfl
        show sI _ (slicesC (z, w) (w + 1).toNat) = _
        rw [hz, col_sum (lkT_mem nd hc) (gc _ hc)]
      rw [e1]
      show some (decide _) = some (decide _)
      rw [Int.zero_add]
  | prs z =>
    obtain ⟨w, hw⟩ := h
    show (bitR os.length (ixF os (z, -1))).run bs = some _
    rw [bitR_run (ixF_lt (pm _ _ hw)) lb, rowB_lk nd hw]
    show some (bAt os bs (z, -1)) = _
    cases bAt os bs (z, -1) <;> rfl
  | bit z p =>
    obtain ⟨⟨w, hw⟩, p0⟩ := h
    have w1 : 1 ≤ w := gc _ hw
    have ew : wOf cs z = w := by unfold wOf; rw [lkT_mem nd hw]; rfl
    have m2 : ((z, min p (w - 1)) : Col) ∈ os := (oo.mem _).mpr ⟨w, hw, by show -1 ≤ min p (w - 1); omega, by show min p (w - 1) < w; omega⟩
    show (zipT (jtF "guard") (bitR os.length (ixF os (z, -1))) (bitR os.length (ixF os (z, min p (wOf cs z - 1))))).run bs = _
    rw [ew, zipT_run (bitR_full (ixF_lt (pm _ _ hw))) (bitR_full (ixF_lt m2)) lb, bitR_run (ixF_lt (pm _ _ hw)) lb, bitR_run (ixF_lt m2) lb]
    show jtF "guard" (some (bAt os bs (z, -1))) (some (bAt os bs (z, min p (w - 1)))) = (match lkR (rowB cs os bs) z with | some (some v) => some (decide ((v / 2 ^ p.toNat) % 2 = 1)) | _ => none)
    rw [rowB_lk nd hw]
    have ej : ∀ a b, jtF "guard" a b = if a = some true then b else none := fun a b => rfl
    rw [ej]
    cases bAt os bs (z, -1) with
    | false => rfl
    | true =>
      rw [if_pos rfl, if_pos rfl]
      show _ = some (decide ((numB os bs z w / 2 ^ p.toNat) % 2 = 1))
      unfold numB
      have ne : ((List.range w.toNat).map fun i : Nat => bAt os bs (z, (i : Int))) ≠ [] := fun e => by
        have := congrArg List.length e
        rw [List.length_map, List.length_range] at this
        have this : w.toNat = 0 := this
        omega
      rw [twos_bitD ne, List.length_map, List.length_range, List.getD_eq_getElem?_getD, List.getElem?_map, List.getElem?_range (by omega)]
      show some _ = some (bAt os bs (z, ((min p.toNat (w.toNat - 1) : Nat) : Int)))
      rw [show ((min p.toNat (w.toNat - 1) : Nat) : Int) = min p (w - 1) from by omega]
  | _ => exact lf.elim
theorem qT_full {cs os : List Col} (oo : OrdOk cs os) (gc : ∀ c ∈ cs, 1 ≤ c.2) (nd : (cs.map fun c => c.1).Nodup) : ∀ {q : Qs}, q.gd cs → (qT cs os q).full os.length
  | .both q r, h => zipT_full (qT_full oo gc nd h.1) (qT_full oo gc nd h.2)
  | .eith q r, h => zipT_full (qT_full oo gc nd h.1) (qT_full oo gc nd h.2)
  | .opp q, h => mapT_full (qT_full (q := q) oo gc nd h)
  | .sure q, h => mapT_full (qT_full (q := q) oo gc nd h)
  | .atm T b, h => lfT_full oo gc nd (q := .atm T b) (Qs.gd_lf (q := .atm T b) h True.intro)
  | .prs z, h => lfT_full oo gc nd (q := .prs z) (Qs.gd_lf (q := .prs z) h True.intro)
  | .bit z p, h => lfT_full oo gc nd (q := .bit z p) (Qs.gd_lf (q := .bit z p) h True.intro)
/-- a diagram's run is the answer of the row that the bits write -/
theorem qT_run {cs os : List Col} (oo : OrdOk cs os) (gc : ∀ c ∈ cs, 1 ≤ c.2) (nd : (cs.map fun c => c.1).Nodup) {bs : List Bool} (lb : bs.length = os.length) : ∀ {q : Qs}, q.gd cs → (qT cs os q).run bs = ans (rowB cs os bs) q
  | .both q r, h => by
    show (zipT ansB _ _).run bs = ansB _ _
    rw [zipT_run (qT_full oo gc nd h.1) (qT_full oo gc nd h.2) lb, qT_run oo gc nd lb h.1, qT_run oo gc nd lb h.2]
  | .eith q r, h => by
    show (zipT ansE _ _).run bs = ansE _ _
    rw [zipT_run (qT_full oo gc nd h.1) (qT_full oo gc nd h.2) lb, qT_run oo gc nd lb h.1, qT_run oo gc nd lb h.2]
  | .opp q, h => by
    show (mapT ansO _).run bs = ansO _
    rw [mapT_run (qT_full (q := q) oo gc nd h) lb, qT_run (q := q) oo gc nd lb h]
  | .sure q, h => by
    show (mapT ansS _).run bs = ansS _
    rw [mapT_run (qT_full (q := q) oo gc nd h) lb, qT_run (q := q) oo gc nd lb h]
  | .atm T b, h => lfT_run oo gc nd (q := .atm T b) h True.intro lb
  | .prs z, h => lfT_run oo gc nd (q := .prs z) h True.intro lb
  | .bit z p, h => lfT_run oo gc nd (q := .bit z p) h True.intro lb
end S
-- deps: Rnr
/-! ## few slices make narrow diagrams -/
namespace S
open PySem PySem.Spec PyProof.Rows L2
def allT : Nat → List BT
  | 0 => [.lf none, .lf (some false), .lf (some true)]
  | d + 1 => (allT d).flatMap fun a => (allT d).map fun b => .nd a b
theorem allT_mem : ∀ {d : Nat} {t : BT}, t.full d → t ∈ allT d
  | 0, .lf none, _ => by decide
  | 0, .lf (some false), _ => by decide
  | 0, .lf (some true), _ => by decide
  | 0, .nd _ _, h => h.elim
  | d + 1, .lf _, h => h.elim
  | d + 1, .nd a b, h => List.mem_flatMap.mpr ⟨a, allT_mem h.1, List.mem_map.mpr ⟨b, allT_mem h.2, rfl⟩⟩
theorem chl_full {d : Nat} : ∀ {F : List BT}, (∀ t ∈ F, t.full (d + 1)) → ∀ t ∈ chl F, t.full d
  | F, h, t, ht => by
    obtain ⟨u, hu, ht⟩ := List.mem_flatMap.mp ht
    have := h u hu
    cases u with
    | lf o => exact this.elim
    | nd a b =>
      have ht : t ∈ [a, b] := ht
      rcases List.mem_cons.mp ht with rfl | ht
      · exact this.1
      · rw [List.mem_singleton.mp ht]; exact this.2
theorem lvF_full : ∀ (i : Nat) {d : Nat} {F : List BT}, (∀ t ∈ F, t.full (d + i)) → ∀ t ∈ lvF i F, t.full d
  | 0, d, F, h => h
  | i + 1, d, F, h => lvF_full i (F := dst (chl F)) fun t ht => chl_full (d := d + i) h t (mem_dst.mp ht)
theorem chl_lenT : ∀ F : List BT, (chl F).length = 2 * F.length
  | [] => rfl
  | t :: F => by
    show ([t.l, t.r] ++ chl F).length = _
    rw [List.length_append, chl_lenT F, List.length_cons]
    simp only [List.length_cons, List.length_nil]; omega
theorem lvF_two : ∀ (i : Nat) (F : List BT), (lvF i F).length ≤ 2 ^ i * F.length
  | 0, F => by show F.length ≤ _; rw [Nat.pow_zero, Nat.one_mul]; exact Nat.le_refl _
  | i + 1, F => by
    have h := lvF_two i (dst (chl F))
    have h2 := dst_len (chl F)
    rw [chl_lenT] at h2
    have h3 := Nat.mul_le_mul_left (2 ^ i) h2
    rw [Nat.pow_succ, Nat.mul_assoc]
    exact Nat.le_trans h h3
theorem allT_len2 : (allT 2).length = 81 := by decide
theorem allT_len1 : (allT 1).length = 9 := by decide
/-- at most ten slices -/
theorem narrow_small {m : Nat} {t : BT} (hm : m ≤ 10) (ht : t.full m) : narrow m t := fun i hi => by
  by_cases h : i ≤ 7
  · have h1 := lvF_two i [t]
    have h2 : 2 ^ i ≤ 2 ^ 7 := Nat.pow_le_pow_right (by decide) h
    have h2 : 2 ^ i ≤ 128 := h2
    have h1 : (lvF i [t]).length ≤ 2 ^ i * 1 := h1
    omega
  · obtain ⟨d, hd⟩ : ∃ d, d + i = m := ⟨m - i, by omega⟩
    have hf := lvF_full i (d := d) (F := [t]) fun u hu => by rw [List.mem_singleton.mp hu, hd]; exact ht
    have h1 := nd_len (lvF_nd (F := [t]) (by simp) i) fun u hu => allT_mem (hf u hu)
    have h3 : (allT d).length ≤ 128 := by
      rcases d with _ | _ | _ | d
      · decide
      · rw [allT_len1]; omega
      · rw [allT_len2]; omega
      · omega
    omega
theorem narQ_small {cs os : List Col} (oo : OrdOk cs os) (gc : ∀ c ∈ cs, 1 ≤ c.2) (nd : (cs.map fun c => c.1).Nodup) (lo : os.length ≤ 10) : ∀ {q : Qs}, q.gd cs → narQ cs os q
  | .both q r, h => ⟨narQ_small oo gc nd lo h.1, narQ_small oo gc nd lo h.2, narrow_small lo (qT_full oo gc nd (q := .both q r) h)⟩
  | .eith q r, h => ⟨narQ_small oo gc nd lo h.1, narQ_small oo gc nd lo h.2, narrow_small lo (qT_full oo gc nd (q := .eith q r) h)⟩
  | .opp q, h => ⟨narQ_small (q := q) oo gc nd lo h, narrow_small lo (qT_full oo gc nd (q := .opp q) h)⟩
  | .sure q, h => ⟨narQ_small (q := q) oo gc nd lo h, narrow_small lo (qT_full oo gc nd (q := .sure q) h)⟩
  | .atm T b, h => narrow_small lo (qT_full oo gc nd (q := .atm T b) h)
  | .prs z, h => narrow_small lo (qT_full oo gc nd (q := .prs z) h)
  | .bit z p, h => narrow_small lo (qT_full oo gc nd (q := .bit z p) h)
theorem okQ_small {cs os : List Col} (lo : os.length ≤ 19) : ∀ {q : Qs}, q.gd cs → okQ cs os q := fun {q} h => by
  have hp : ∀ T b i, i ≤ os.length → (pts (cmpS (os.map (wgtC cs T))) (some b) i).length ≤ 1000000 := fun T b i hi => by
    have h1 := pts_two (st := cmpS (os.map (wgtC cs T))) (s0 := some b) i
    have h2 : 2 ^ i ≤ 2 ^ 19 := Nat.pow_le_pow_right (by decide) (by omega)
    have h3 : 2 ^ 19 = 524288 := by decide
    omega
  induction q with
  | both q r ih1 ih2 => exact ⟨ih1 h.1, ih2 h.2⟩
  | eith q r ih1 ih2 => exact ⟨ih1 h.1, ih2 h.2⟩
  | opp q ih => exact ih h
  | sure q ih => exact ih h
  | atm T b => exact ⟨h.2, fun T b _ i hi => hp T b i hi⟩
  | prs z => exact ⟨h, fun T b _ i hi => hp T b i hi⟩
  | bit z p => exact ⟨h, fun T b _ i hi => hp T b i hi⟩
theorem Qs.gd_kn {cs : List Col} : ∀ {q : Qs}, q.gd cs → ∀ z, q.has z → ∃ w, (z, w) ∈ cs
  | .atm T b, h, z, g => by
    obtain ⟨t, ht, e⟩ := List.mem_map.mp g
    have e : t.1 = z := e
    rw [← e]; exact h.2 t ht
  | .prs y, h, z, g => by
    have g : z = y := g
    rw [g]; exact h
  | .bit y i, h, z, g => by
    have g : z = y := g
    rw [g]; exact h.1
  | .both q r, h, z, g => g.elim (Qs.gd_kn h.1 z) (Qs.gd_kn h.2 z)
  | .eith q r, h, z, g => g.elim (Qs.gd_kn h.1 z) (Qs.gd_kn h.2 z)
  | .opp q, h, z, g => Qs.gd_kn (q := q) h z g
  | .sure q, h, z, g => Qs.gd_kn (q := q) h z g
end S
-- deps: Acg Nar Rcp2
/-! ## drawn questions over the columns -/
namespace S
open PySem PySem.Spec PyProof.Rows L2
theorem gd_leaf {s : Stp} {cs : List Col} (h : s.leaf (cs.map fun c => c.1)) : (lfQ s).gd cs := by
  have mem : ∀ z, z ∈ cs.map (fun c => c.1) → ∃ w, (z, w) ∈ cs := fun z hz => by
    obtain ⟨c, hc, rfl⟩ := List.mem_map.mp hz
    exact ⟨c.2, hc⟩
  cases s with
  | prs y => exact mem y h
  | bit y p => exact ⟨mem y h.1, h.2.1⟩
  | atm T b =>
    obtain ⟨nd, inT, sm, wb⟩ := h
    have pm := perm_lkS (srtT_ok nd).1.nd nd (srtT_ok nd).2
    exact ⟨(srtT_ok nd).1.nd, fun t ht => mem _ (inT _ (List.mem_map.mpr ⟨t, pm.mem_iff.mp ht, rfl⟩))⟩
  | _ => exact h.elim
theorem recipe_gd {ss : List Stp} {cs : List Col} {q : Qs} (lf : ∀ s ∈ ss, s.isLeaf = true → s.leaf (cs.map fun c => c.1)) (h : runQ lfQ ss [] = [q]) : q.gd cs ∧ q.plc ∧ ∀ z, q.has z → z ∈ (cs.map fun c : Col => c.1) :=
  runQ_all (P := fun q => q.gd cs ∧ q.plc ∧ ∀ z, q.has z → z ∈ (cs.map fun c : Col => c.1)) (fun _ _ h g => ⟨⟨h.1, g.1⟩, ⟨h.2.1, g.2.1⟩, fun z hz => hz.elim (h.2.2 z) (g.2.2 z)⟩) (fun _ _ h g => ⟨⟨h.1, g.1⟩, ⟨h.2.1, g.2.1⟩, fun z hz => hz.elim (h.2.2 z) (g.2.2 z)⟩) (fun _ h => h) (fun _ h => h) ss []
    (fun s hs hl => ⟨gd_leaf (lf s hs hl), plc_leaf (lf s hs hl), has_leaf (lf s hs hl)⟩) (fun _ z => nomatch z) q (by rw [h]; exact List.mem_singleton.mpr rfl)
end S
namespace S
open PySem PySem.Spec PyProof.Rows L2
end S
-- fn: Schema.is_order
-- law: k52
-- sortC: yes
-- deps: Schema_all_slices_t
namespace S
open PySem PySem.Spec PyProof.Rows L2
end S
namespace S
open PySem PySem.Spec PyProof.Rows L2
end S
-- fn: Schema.reading_order
-- law: k37
-- extA: yes
-- tupK: yes
-- deps: Lcc Li D0 D1 Schema_all_slices_t
namespace S
open PySem PySem.Spec PyProof.Rows L2
def maxW : List Col → Nat
  | [] => 0
  | c :: cs => max c.2.toNat (maxW cs)
/-- the places, from 0 up or from the highest down -/
def plc (cs : List Col) (dn : Bool) : List Int := let l := (List.range (maxW cs)).map fun j : Nat => (j : Int); if dn then l.reverse else l
def lvl (cs : List Col) (p : Int) : List Col := (cs.filter fun c => decide (p < c.2)).map fun c => (c.1, p)
def ordOf (cs : List Col) (P : List Int) : List Col := (cs.map fun c => (c.1, -1)) ++ P.flatMap (lvl cs)
section
variable {K : Frag} {E : XK} {Q : VK} {H : Hp} {x : Addr} {w : Str} {cs : List Col}
end
end S
-- deps: Qs Fm2
/-! ## the names of a question -/
namespace S
open PySem PySem.Spec PyProof.Rows L2
end S
namespace S
open PySem PySem.Spec PyProof.Rows L2
end S
-- fn: diagram_of
-- law: k52
-- rec: part_diagram
-- sortC: yes
-- dyn: names
-- deps: Pdg Schema_is_order Schema_reading_order_t Nq Schema_width_of Fstay Held
namespace S
open PySem PySem.Spec PyProof.Rows L2
theorem OrdOk.of {cs os : List Col} (nd : (cs.map fun c => c.1).Nodup) (h : os.Perm (slicesOf cs)) (l : os.length ≤ 10000) : OrdOk cs os where
  nd := h.nodup_iff.mpr (slicesOf_nodup nd)
  mem := fun c => by
    rw [h.mem_iff, slicesOf_mem]
    constructor
    · rintro ⟨d, hd, h1, h2, h3⟩; exact ⟨d.2, by rw [h1]; exact hd, h2, h3⟩
    · rintro ⟨w, hd, h2, h3⟩; exact ⟨(c.1, w), hd, rfl, h2, h3⟩
  len := l
/-- all names of a question are columns -/
def knQ (cs : List Col) (q : Qs) : Prop := ∀ z, q.has z → ∃ w, (z, w) ∈ cs
def sp_diagram_of (K : Frag) : Sp := fun vs H Q E => ∃ (a s : Addr) (ov : V) (q : Qs) (D : List Str) (cs os : List Col), vs = [.ref a, .ref s, ov] ∧ QA K H a q ∧ q.dep ≤ nT ∧ D.length < 64 ∧ (∀ z, q.has z → z ∈ D) ∧ Sc K H s cs ∧ (∀ c ∈ cs, c.2 ≤ 1000) ∧ cs.length ≤ 100 ∧ (slicesOf cs).length ≤ 10000 ∧
  ((ov = .non ∧ os = ordOf cs (plc cs true)) ∨ (∃ (po : Addr) (ys : List V), ov = .ref po ∧ OrdO K H po ys ∧ ColsK H ys os ∧ (∀ c ∈ os, PyData.strOk c.1 = true) ∧ os.length ≤ 100000)) ∧
  (os.Perm (slicesOf cs) → knQ cs q → okQ cs os q) ∧
  (¬ os.Perm (slicesOf cs) → XF K "BadOrder" → ∀ H', Same H H' → E (.ref (He.ga K "BadOrder")) none H') ∧
  (∀ z, os.Perm (slicesOf cs) → q.has z → (∀ c ∈ cs, c.1 ≠ z) → (∀ y, q.has y → leS y z → y ≠ z → ∃ w, (y, w) ∈ cs) → XE K "NoSuchColumn" → ∀ H' d, Same H H' → H' d = none → E (.ref (He.ga K "NoSuchColumn")) (some d) (upd H' d (.xd [("name", .str z)]))) ∧
  (os.Perm (slicesOf cs) → knQ cs q → narQ cs os q → ∀ z H', Same H H' → H z = none → DgA K H' z os (qT cs os q) → Q (.ref z) H') ∧
  (os.Perm (slicesOf cs) → knQ cs q → ¬ narQ cs os q → XF K "TooWide" → ∀ H', Same H H' → E (.ref (He.ga K "TooWide")) none H')
end S
-- deps: _law_order _law_recipe Gdq diagram_of L43a
/-! ## what stands ahead of the diagrams of a law: columns, recipe, order -/
namespace S
open PySem PySem.Spec PyProof.Rows L2
structure Bd (K : Frag) (B Z : Hp) (a st p r po : Addr) (ys zs : List V) (cs os : List Col) (xs : List Addr) (ss : List Stp) (q : Qs) (M : Nat) : Prop where
  c : Ctx K Z a st
  hp : Z p = some (.lst ys)
  hC : Cols K Z ys cs
  hr : Z r = some (.lst (xs.map V.ref))
  hS : Paired (fun s x => StA K B Z x s) ss xs
  ho : Z po = some (.lst zs)
  hO : ColsK Z zs os
  pm : os.Perm (slicesOf cs)
  ok : okR ss 0 = some 1
  lss : ss.length ≤ 1000
  lf : ∀ s ∈ ss, s.isLeaf = true → s.leaf (cs.map fun c => c.1)
  rq : runQ lfQ ss [] = [q]
  dep : q.dep ≤ 12
  g : goodC cs
  lc : cs.length ≤ 3
  w : ∀ c ∈ cs, c.2 ≤ 6
  lo : os.length ≤ M
  pst : p ≠ st
  rst : r ≠ st
  ost : po ≠ st
  Bst : ∃ o, B st = some o
section
variable {K : Frag} {B Z W : Hp} {a st p r po : Addr} {ys zs : List V} {cs os : List Col} {xs : List Addr} {ss : List Stp} {q : Qs} {M : Nat}
theorem Bd.x (b : Bd K B Z a st p r po ys zs cs os xs ss q M) (e : SameX st Z W) (c : Ctx K W a st) : Bd K B W a st p r po ys zs cs os xs ss q M := by
  obtain ⟨l0, hst⟩ := ctx_st b.c
  obtain ⟨o, ho⟩ := b.Bst
  exact ⟨c, e _ _ b.hp b.pst, b.hC.x e hst, e _ _ b.hr b.rst, Paired.mapP b.hS fun _ _ h => h.x e hst ho, e _ _ b.ho b.ost, b.hO.x e hst (fun _ z => by cases z), b.pm, b.ok, b.lss, b.lf, b.rq, b.dep, b.g, b.lc, b.w, b.lo, b.pst, b.rst, b.ost, b.Bst⟩
theorem Bd.same (b : Bd K B Z a st p r po ys zs cs os xs ss q M) (e : Same Z W) : Bd K B W a st p r po ys zs cs os xs ss q M := b.x (Same.x e) (b.c.same e)
variable (b : Bd K B Z a st p r po ys zs cs os xs ss q M)
include b
theorem Bd.w1 : ∀ c ∈ cs, 1 ≤ c.2 := fun c hc => (b.g.2 c hc).2
theorem Bd.gd : q.gd cs := (recipe_gd b.lf b.rq).1
theorem Bd.kn : ∀ z, q.has z → z ∈ (cs.map fun c : Col => c.1) := (recipe_gd b.lf b.rq).2.2
theorem Bd.so : ∀ c ∈ os, PyData.strOk c.1 = true := fun c hc => by
  obtain ⟨d, hd, e, _⟩ := slicesOf_mem.mp (b.pm.mem_iff.mp hc)
  rw [e]; exact b.g.ok d hd
theorem Bd.oo (h : M ≤ 10) : OrdOk cs os := OrdOk.of b.g.1 b.pm (by have := b.lo; omega)
theorem Bd.full (h : M ≤ 10) : (qT cs os q).full os.length := qT_full (b.oo h) b.w1 b.g.1 b.gd
theorem Bd.run (h : M ≤ 10) {bs : List Bool} (lb : bs.length = os.length) : (qT cs os q).run bs = ans (rowB cs os bs) q := qT_run (b.oo h) b.w1 b.g.1 lb b.gd
/-- the diagram of the question -/
theorem Bd.dg {H : Hp} {qa s : Addr} {Q : VK} {E : XK} (h : M ≤ 10) (hn : 12 ≤ nT) (hq : QA K H qa q) (hs : Sc K H s cs) (ho : OrdO K H po zs) (hO : ColsK H zs os) (k : ∀ z H', Same H H' → H z = none → DgA K H' z os (qT cs os q) → Q (.ref z) H') : sp_diagram_of K [.ref qa, .ref s, .ref po] H Q E := by
  have lo := b.lo
  have lp := b.pm.length_eq
  have nar := narQ_small (b.oo h) b.w1 b.g.1 (Nat.le_trans b.lo h) b.gd
  have kn : knQ cs q := Qs.gd_kn b.gd
  refine ⟨qa, s, .ref po, q, cs.map fun c => c.1, cs, os, rfl, hq, Nat.le_trans b.dep hn, by rw [List.length_map]; have := b.lc; omega, b.kn, hs, fun c hc => by have := b.w c hc; omega, by have := b.lc; omega, by omega, .inr ⟨po, zs, rfl, ho, hO, b.so, by omega⟩, fun _ _ => okQ_small (by omega) b.gd, fun n => absurd b.pm n, fun z _ hz no => ?_, fun _ _ _ z H' e nz hz => k z H' e nz hz, fun _ _ n => absurd nar n⟩
  obtain ⟨w, hw⟩ := kn z hz
  exact absurd rfl (no _ hw)
end
end S
-- deps: Dgm Bts
/-! ## nodes of diagrams as trees -/
namespace S
open PySem PySem.Spec PyProof.Rows L2
/-- the tree behind some bits -/
def subT : BT → List Bool → BT
  | t, [] => t
  | t, b :: bs => subT (if b then t.r else t.l) bs
theorem run_sub : ∀ {m : Nat} {t : BT} {bs : List Bool} (cs : List Bool), t.full (bs.length + m) → t.run (bs ++ cs) = (subT t bs).run cs
  | m, t, [], cs, h => rfl
  | m, t, b :: bs, cs, h => by
    rw [List.length_cons, Nat.add_right_comm] at h
    cases t with
    | lf o => exact h.elim
    | nd x y =>
      cases b
      · exact run_sub (bs := bs) cs h.1
      · exact run_sub (bs := bs) cs h.2
theorem sub_full : ∀ {m : Nat} {t : BT} {bs : List Bool}, t.full (bs.length + m) → (subT t bs).full m
  | m, t, [], h => by rw [List.length_nil, Nat.zero_add] at h; exact h
  | m, t, b :: bs, h => by
    rw [List.length_cons, Nat.add_right_comm] at h
    cases t with
    | lf o => exact h.elim
    | nd x y =>
      cases b
      · exact sub_full (bs := bs) h.1
      · exact sub_full (bs := bs) h.2
end S
-- deps: Dgt Bts K50m
/-! ## all subtrees of a level, in order; leaves -/
namespace S
open PySem PySem.Spec PyProof.Rows L2
/-! ### leaves -/
end S
-- deps: Alv
/-! ## least lists that lead to nodes; lists that part nodes -/
namespace S
open PySem PySem.Spec PyProof.Rows L2
theorem ixF_selfG {κ : Type} [DecidableEq κ] : ∀ {l : List κ} {j : Nat} {c : κ}, l.Nodup → l[j]? = some c → ixF l c = j
  | x :: l, 0, c, nd, h => by
    rw [List.getElem?_cons_zero] at h
    cases h
    rw [ixF_cons, if_pos rfl]
  | x :: l, j + 1, c, nd, h => by
    obtain ⟨h1, h2⟩ := List.nodup_cons.mp nd
    rw [List.getElem?_cons_succ] at h
    rw [ixF_cons, if_neg fun e => h1 (by rw [e]; exact List.mem_of_getElem? h), ixF_selfG h2 h]
/-! ### the least list that parts two trees -/
def pbT : BT → BT → List Bool
  | .nd a b, .nd c d => if a = c then true :: pbT b d else false :: pbT a c
  | _, _ => []
/-- are all leaves alike? -/
def fxT : BT → Bool
  | .lf _ => true
  | .nd a b => decide (a = b) && fxT a
end S
namespace S
open PySem PySem.Spec PyProof.Rows L2
def tF_Bitmap_runs_b1 (K : Frag) (E : XK) (Kc : TurnK) : TGn :=
    tGIf (dCmpT oIsN (dVar 1) (tC .non)) (tPlain (tAsg (dVar 2) (gName 1))) (tGThen (tFYield Kc (dTup K (tCons (dVar 1) (tCons (dVar 2) (tNil)))))
    (tPlain (tAsg (tC .non) (gName 1))))
def tF_Bitmap_runs_2 (K : Frag) (E : XK) (Kc : TurnK) : TGn :=
    tGIf (dCmpT oNotN (dVar 1) (tC .non)) (tFYield Kc (dTup K (tCons (dVar 1) (tCons (dAt K "size" (dVar 0)) (tNil))))) (tG0)
def tF_Bitmap_runs_1 (K : Frag) (E : XK) (Kc : TurnK) : TGn :=
    tGThen (dGFor (iSeq K (dAt K "ends" (dVar 0))) (gName 2) (tF_Bitmap_runs_b1 K E Kc))
    (gstop (tF_Bitmap_runs_2 K E Kc))
def tF_Bitmap_runs (K : Frag) (E : XK) (Kc : TurnK) : TGn :=
    tGThen (tPlain (tAsg (tC .non) (gName 1)))
    (gstop (tF_Bitmap_runs_1 K E Kc))
end S
-- fnF: Bitmap.runs
-- law: k06
-- deps: Bitmap_runs
namespace S
open PySem PySem.Spec PyProof.Rows L2
theorem stepR_mono : ∀ (es : List Int) (st : Option Int × List (Int × Int)), ∃ r, (es.foldl stepR st).2 = st.2 ++ r
  | [], st => ⟨[], (List.append_nil _).symm⟩
  | e :: r, (none, acc) => stepR_mono r (some e, acc)
  | e :: r, (some s, acc) => by
    obtain ⟨r', h⟩ := stepR_mono r (none, acc ++ [(s, e)])
    exact ⟨(s, e) :: r', by show (r.foldl stepR (none, acc ++ [(s, e)])).2 = _; rw [h, List.append_assoc]; rfl⟩
theorem stepR_pre (n : Int) (es : List Int) (i : Nat) : ∃ r, runsP n es = ((es.take i).foldl stepR (none, [])).2 ++ r := by
  have h := stepR_runs n es []
  rw [List.nil_append] at h
  obtain ⟨r, hr⟩ := stepR_mono (es.drop i) ((es.take i).foldl stepR (none, []))
  rw [← List.foldl_append, List.take_append_drop] at hr
  rw [← h]
  generalize es.foldl stepR (none, []) = st at hr ⊢
  obtain ⟨o, acc⟩ := st
  cases o with
  | none => exact ⟨r, hr⟩
  | some s => exact ⟨r ++ [(s, n)], by show acc ++ [(s, n)] = _; rw [show acc = _ from hr, List.append_assoc]⟩
/-- the runs of a bitmap, handed to a loop -/
def spF_Bitmap_runs (K : Frag) : SpF := fun vs H Kc Q => ∃ (a : Addr) (n : Int) (es : List Int), vs = [.ref a] ∧ Bm K H a n es ∧ es.length ≤ 50000 ∧
  (∀ (ys : List V) (s e : Int) (p : Addr) (H1 : Hp) (post : Hp → Prop), (runsP n es)[ys.length]? = some (s, e) → Same H H1 → SqT K H1 p [.int s, .int e] → (∀ H', Same H1 H' → post H') → Kc ys (.ref p) H1 post) ∧
  ∀ ys H', ys.length = (runsP n es).length → Same H H' → Q ys H'
theorem pureF_Bitmap_runs {K : Frag} (vs : List V) (H : Hp) (Kc : TurnK) (Q : List V → Hp → Prop) (h : spF_Bitmap_runs K vs H Kc Q) : tF_Bitmap_runs K E0 Kc { nx := fun ys _ H' => Q ys H', rt := fun ys v H' => v = .non ∧ Q ys H' } [] (start ["self", "start", "end"] vs) H := by
  obtain ⟨a, n, es, rfl, hb, hl, kc, q⟩ := h
  obtain ⟨cf, _, _, dx, u, sl, hu⟩ := id hb
  refine ⟨?_⟩
  refine Atr.sl cf sl (i := 0) rfl rfl ?_
  refine gfor_seq (K := K) (fun i ys σ H1 => ∃ x2 : Option V, σ = [some (.ref a), some (vOI ((es.take i).foldl stepR (none, [])).1), x2] ∧ Same H H1 ∧ ys.length = ((es.take i).foldl stepR (none, [])).2.length) (.inr hu) ⟨none, rfl, Same.refl _, rfl⟩
    (fun i ys σ H' _ z => let ⟨_, _, e, _⟩ := z; Same.stay e) ?_ ?_
  · rintro i x ys σ H1 hj ⟨x2, rfl, e1, hP⟩
    obtain ⟨e, he, rfl⟩ := map_get hj
    have tk : (es.take (i + 1)).foldl stepR (none, []) = stepR ((es.take i).foldl stepR (none, [])) e := by rw [List.take_succ, he, List.foldl_append]; rfl
    have hln := stepR_len (es.take i) none []
    obtain ⟨rest, hpre⟩ := stepR_pre n es (i + 1)
    have hil : i < es.length := (List.getElem?_eq_some_iff.mp he).1
    rw [List.length_take] at hln
    rw [tk] at hpre ⊢
    generalize (es.take i).foldl stepR (none, []) = st at hP hln hpre ⊢
    obtain ⟨o, acc⟩ := st
    simp only [List.length_nil] at hln
    dsimp only at hP hln
    cases o with
    | none =>
      refine ⟨rfl, ?_⟩
      exact ⟨_, rfl, e1, hP⟩
    | some s =>
      refine ⟨rfl, ?_⟩
      refine ⟨by rw [sizeLine_eq]; omega, ?_⟩
      refine ⟨by show 2 ≤ sizeLine; rw [sizeLine_eq]; decide, ⟨fun t H2 e2 ht => ?_⟩⟩
      have hpre : runsP n es = (acc ++ [(s, e)]) ++ rest := hpre
      refine kc ys s e t H2 _ ?_ (e1.trans e2) ht fun H3 e3 => ?_
      · rw [hpre, hP, List.append_assoc, List.getElem?_append_right (Nat.le_refl _), Nat.sub_self]
        rfl
      · exact ⟨_, rfl, (e1.trans e2).trans e3, by show (ys ++ [_]).length = (acc ++ [(s, e)]).length; rw [List.length_append, List.length_append, hP]; rfl⟩
  · rintro ys σ H1 ⟨x2, rfl, e1, hP⟩
    rw [List.length_map, List.take_length] at hP ⊢
    have hr := stepR_runs n es []
    have hln := stepR_len es none []
    generalize es.foldl stepR (none, []) = st at hP hr hln ⊢
    obtain ⟨o, acc⟩ := st
    simp only [List.length_nil] at hln
    dsimp only at hP hln
    refine ⟨?_⟩
    cases o with
    | none =>
      refine ⟨rfl, ?_⟩
      have hr : acc = runsP n es := hr
      exact q _ _ (by rw [← hr]; exact hP) e1
    | some s =>
      refine ⟨rfl, ?_⟩
      refine ⟨by rw [sizeLine_eq]; omega, ?_⟩
      refine Atr.sl cf (Same.slt e1 sl) (i := 1) rfl rfl ?_
      refine ⟨by show 2 ≤ sizeLine; rw [sizeLine_eq]; decide, ⟨fun t H2 e2 ht => ?_⟩⟩
      have hr : acc ++ [(s, n)] = runsP n es := hr
      refine kc ys s n t H2 _ ?_ (e1.trans e2) ht fun H3 e3 => ?_
      · rw [← hr, hP, List.getElem?_append_right (Nat.le_refl _), Nat.sub_self]
        rfl
      · refine q _ _ ?_ ((e1.trans e2).trans e3)
        rw [← hr, List.length_append, List.length_append, hP]
        rfl
end S
namespace S
open PySem PySem.Spec PyProof.Rows L2
def t_Bitmap_nth_b1_1 (K : Frag) (E : XK) : TS :=
    tAsg (tOp oSub (dVar 2) (tOp oSub (dVar 5) (dVar 4))) (gName 2)
def t_Bitmap_nth_b1 (K : Frag) (E : XK) : TS :=
    tSeq (dIfS (dChainT oLe oLt (tC (.int 0)) (dVar 2) (tOp oSub (dVar 5) (dVar 4))) (tAsg (tOp oAddI (dVar 4) (dVar 2)) (gName 3)) (tNext))
    (stop (t_Bitmap_nth_b1_1 K E))
def t_Bitmap_nth_4 (K : Frag) (E : XK) : TS :=
    tRet (dVar 3)
def t_Bitmap_nth_3 (K : Frag) (E : XK) : TS :=
    tSeq (dForF (tMethFS K "Bitmap" (spF_Bitmap_runs K) (dVar 0)) (gTup K 2 (gCons (gName 4) (gCons (gName 5) (gNil)))) (t_Bitmap_nth_b1 K E))
    (stop (t_Bitmap_nth_4 K E))
def t_Bitmap_nth_2 (K : Frag) (E : XK) : TS :=
    tSeq (tAsg (tC (.int 0)) (gName 3))
    (stop (t_Bitmap_nth_3 K E))
def t_Bitmap_nth_1 (K : Frag) (E : XK) : TS :=
    tSeq (tAsg (dVar 1) (gName 2))
    (stop (t_Bitmap_nth_2 K E))
def t_Bitmap_nth (K : Frag) (E : XK) : TS :=
    tSeq (dIfS (dNot (dChainT oLe oLt (tC (.int 0)) (dVar 1) (dProp K "Bitmap" (sp_Bitmap_ones K) (dVar 0)))) (dGivS (ExF K "NoSuchRank" ["SliceError"]) (dRsI K "NoSuchRank" "number" (WD E) 1)) (tNext))
    (stop (t_Bitmap_nth_1 K E))
end S
-- fn: Bitmap.nth
-- law: k06
-- deps: Bitmap_runsF Bitmap_ones Bitmap_init Bx
namespace S
open PySem PySem.Spec PyProof.Rows L2
/-- one run of the loop: what is left, the row found -/
def nthS (st : Int × Int) (r : Int × Int) : Int × Int := (st.1 - (r.2 - r.1), if 0 ≤ st.1 ∧ st.1 < r.2 - r.1 then r.1 + st.1 else st.2)
theorem nthS_neg : ∀ (R : List (Int × Int)) (k x : Int), k < 0 → (∀ r ∈ R, r.1 < r.2) → (R.foldl nthS (k, x)).2 = x
  | [], _, _, _, _ => rfl
  | r :: R, k, x, hk, h => by
    have hr := h r List.mem_cons_self
    show (R.foldl nthS (nthS (k, x) r)).2 = x
    have e : nthS (k, x) r = (k - (r.2 - r.1), x) := by
      unfold nthS
      rw [if_neg (by dsimp only; omega)]
    rw [e]
    exact nthS_neg R _ x (by omega) fun q hq => h q (List.mem_cons_of_mem _ hq)
theorem runsP_lt {n : Int} : ∀ (es : List Int), es.Pairwise (· < ·) → (∀ e ∈ es, e < n) → ∀ r ∈ runsP n es, r.1 < r.2
  | [], _, _, r, hr => by cases hr
  | [a], _, h, r, hr => by
    rw [List.mem_singleton.mp hr]
    exact h a List.mem_cons_self
  | a :: b :: l, hp, h, r, hr => by
    obtain ⟨h1, h2⟩ := List.pairwise_cons.mp hp
    rcases List.mem_cons.mp hr with e | hr
    · rw [e]
      exact h1 b List.mem_cons_self
    · exact runsP_lt l (List.pairwise_cons.mp h2).2 (fun e he => h e (List.mem_cons_of_mem _ (List.mem_cons_of_mem _ he))) r hr
theorem rankF_late (row : Int) : ∀ (es : List Int) (s : Int), (∀ e ∈ es, row ≤ e) → rankF row es s = 0
  | [], _, _ => rfl
  | e :: r, s, h => by
    show (if e < row then (row - e) * s else 0) + rankF row r (-s) = 0
    rw [if_neg (by have := h e List.mem_cons_self; omega), rankF_late row r (-s) fun x hx => h x (List.mem_cons_of_mem _ hx)]
    rfl
theorem rankF_two (row a b : Int) (es : List Int) : rankF row (a :: b :: es) 1 = (if a < row then row - a else 0) - (if b < row then row - b else 0) + rankF row es 1 := by
  show (if a < row then (row - a) * 1 else 0) + ((if b < row then (row - b) * -1 else 0) + rankF row es (- -1)) = _
  rw [Int.neg_neg, Int.mul_one]
  have e : (if b < row then (row - b) * -1 else 0) = -(if b < row then row - b else 0) := by
    by_cases h : b < row
    · rw [if_pos h, if_pos h]; omega
    · rw [if_neg h, if_neg h]; rfl
  rw [e]
  omega
theorem nth_runs {n : Int} : ∀ (es : List Int) (k x : Int), es.Pairwise (· < ·) → (∀ e ∈ es, e < n) → 0 ≤ k → k < rankF n es 1 →
    (∃ lo ∈ es.head?, lo ≤ ((runsP n es).foldl nthS (k, x)).2) ∧ ((runsP n es).foldl nthS (k, x)).2 < n ∧ inB es ((runsP n es).foldl nthS (k, x)).2 = true ∧ rankF ((runsP n es).foldl nthS (k, x)).2 es 1 = k
  | [], k, x, _, _, k0, k1 => by
    have k1 : k < 0 := k1
    omega
  | [a], k, x, _, hn, k0, k1 => by
    have ha := hn a List.mem_cons_self
    have e1 : rankF n [a] 1 = n - a := by
      show (if a < n then (n - a) * 1 else 0) + 0 = _
      rw [if_pos ha]; omega
    rw [e1] at k1
    have e : ((runsP n [a]).foldl nthS (k, x)).2 = a + k := by
      show (nthS (k, x) (a, n)).2 = _
      unfold nthS
      rw [if_pos (by dsimp only; omega)]
    rw [e]
    refine ⟨⟨a, rfl, by omega⟩, by omega, ?_, ?_⟩
    · rw [inB_cons, if_pos (by omega)]; rfl
    · show (if a < a + k then (a + k - a) * 1 else 0) + 0 = k
      by_cases h : a < a + k
      · rw [if_pos h]; omega
      · rw [if_neg h]; omega
  | a :: b :: l, k, x, hp, hn, k0, k1 => by
    obtain ⟨h1, h2⟩ := List.pairwise_cons.mp hp
    obtain ⟨h3, h4⟩ := List.pairwise_cons.mp h2
    have hab := h1 b List.mem_cons_self
    have hbn := hn b (List.mem_cons_of_mem _ List.mem_cons_self)
    have hln : ∀ e ∈ l, e < n := fun e he => hn e (List.mem_cons_of_mem _ (List.mem_cons_of_mem _ he))
    have hst : (runsP n (a :: b :: l)).foldl nthS (k, x) = (runsP n l).foldl nthS (nthS (k, x) (a, b)) := rfl
    rw [rankF_two, if_pos (by omega), if_pos hbn] at k1
    rw [hst]
    by_cases hk : k < b - a
    · have e : nthS (k, x) (a, b) = (k - (b - a), a + k) := by
        unfold nthS
        rw [if_pos (by dsimp only; omega)]
      have e2 : ((runsP n l).foldl nthS (nthS (k, x) (a, b))).2 = a + k := by
        rw [e]
        exact nthS_neg _ _ _ (by omega) (runsP_lt l h4 hln)
      rw [e2]
      refine ⟨⟨a, rfl, by omega⟩, by omega, ?_, ?_⟩
      · rw [inB_cons, if_pos (by omega), inB_before fun w hw => ?_]
        · rfl
        · rcases List.mem_cons.mp hw with z | z
          · rw [z]; omega
          · have := h3 w z; omega
      · have hb2 : ¬ b < a + k := by omega
        rw [rankF_two, if_neg hb2, rankF_late (a + k) l 1 fun w hw => by have := h3 w hw; omega]
        by_cases h : a < a + k
        · rw [if_pos h]; omega
        · rw [if_neg h]; omega
    · have e : nthS (k, x) (a, b) = (k - (b - a), x) := by
        unfold nthS
        rw [if_neg (by dsimp only; omega)]
      rw [e]
      obtain ⟨⟨lo, hlo, h5⟩, h6, h7, h8⟩ := nth_runs l (k - (b - a)) x h4 hln (by omega) (by omega)
      generalize ((runsP n l).foldl nthS (k - (b - a), x)).2 = r at h5 h6 h7 h8
      have hlo2 : lo ∈ l := List.mem_of_mem_head? hlo
      have hb := h3 lo hlo2
      refine ⟨⟨a, rfl, by omega⟩, h6, ?_, ?_⟩
      · rw [inB_cons, if_pos (by omega), inB_cons, if_pos (by omega), h7]; rfl
      · rw [rankF_two, if_pos (by omega), if_pos (by omega), h8]; omega
def nthW (R : List (Int × Int)) (k : Int) (a : Addr) (ys : List V) (σ : L2.St) : Prop := ∃ x4 x5 : Option V, σ = [some (.ref a), some (.int k), some (.int ((R.take ys.length).foldl nthS (k, 0)).1), some (.int ((R.take ys.length).foldl nthS (k, 0)).2), x4, x5]
theorem nthW_step {R : List (Int × Int)} {k s e l r : Int} {a : Addr} {ys : List V} {v : V} {x4 x5 : Option V} (hg : R[ys.length]? = some (s, e)) (h : nthS ((R.take ys.length).foldl nthS (k, 0)) (s, e) = (l, r)) : nthW R k a (ys ++ [v]) [some (.ref a), some (.int k), some (.int l), some (.int r), x4, x5] := by
  refine ⟨x4, x5, ?_⟩
  rw [List.length_append]
  show _ = [_, _, some (V.int ((R.take (ys.length + 1)).foldl nthS (k, 0)).1), some (V.int ((R.take (ys.length + 1)).foldl nthS (k, 0)).2), _, _]
  rw [List.take_succ, hg, List.foldl_append]
  show _ = [_, _, some (V.int (nthS ((R.take ys.length).foldl nthS (k, 0)) (s, e)).1), some (V.int (nthS ((R.take ys.length).foldl nthS (k, 0)) (s, e)).2), _, _]
  rw [h]
def sp_Bitmap_nth (K : Frag) : Sp := fun vs H Q E => ∃ (a : Addr) (n k : Int) (es : List Int), vs = [.ref a, .int k] ∧ Bm K H a n es ∧ n ≤ 2 * 10 ^ 18 ∧ es.length ≤ 50000 ∧
  (0 ≤ k → k < rankF n es 1 → ∀ r H', Same H H' → 0 ≤ r → r < n → inB es r = true → rankF r es 1 = k → Q (.int r) H') ∧
  (¬ (0 ≤ k ∧ k < rankF n es 1) → XF K "NoSuchRank" → ∀ d H', Same H H' → H' d = none → E (.ref (He.ga K "NoSuchRank")) (some d) (upd H' d (.xd [("number", .int k)])))
theorem pure_Bitmap_nth {K : Frag} (vs : List V) (H : Hp) (Q : VK) (E : XK) (h : sp_Bitmap_nth K vs H Q E) : t_Bitmap_nth K E { nx := fun _ H' => Q .non H', rt := Q } (start ["self", "k", "left", "row", "start", "stop"] vs) H := by
  obtain ⟨a, n, k, es, rfl, hb, n1, hl, good, bad⟩ := h
  obtain ⟨c, n0, hE, dx, p, hs, hp⟩ := id hb
  have raise : ∀ H2, Same H H2 → ¬ (0 ≤ k ∧ k < rankF n es 1) → ∀ D, dGivS (ExF K "NoSuchRank" ["SliceError"]) (dRsI K "NoSuchRank" "number" (WD E) 1) D [some (.ref a), some (.int k), none, none, none, none] H2 := fun H2 e2 hb D xf => ⟨fun d nd => bad hb xf d H2 e2 nd⟩
  walk_at "gx"
  refine ifd (fun k0 => ?_) (fun k0 => raise H (Same.refl _) (fun z => k0 z.1) _)
  refine IsO.of hs ⟨a, n, es, rfl, hb, n1, hl, fun H1 e1 => ?_⟩
  show bIf (!decide (k < rankF n es 1)) _ _
  refine ifn (fun k1 => raise H1 e1 (fun z => k1 z.2) _) (fun k1 => ?_)
  have hb1 := hb.same e1
  walk_at "gx"
  have key := nth_runs es k 0 hE.1 (fun e he => (hE.2 e he).2) k0 k1
  refine ⟨⟨nthW (runsP n es) k a, ⟨none, none, rfl⟩, ?_⟩⟩
  refine IsO.of (Same.slt e1 hs) ⟨a, n, es, rfl, hb1, hl, ?_, ?_⟩
  · rintro ys s e q H2 post hget e2 hq hpost σ1 ⟨x4, x5, rfl⟩
    have step := fun l r (x4 x5 : Option V) (v : V) => nthW_step (k := k) (l := l) (r := r) (a := a) (v := v) (x4 := x4) (x5 := x5) hget
    generalize ((runsP n es).take ys.length).foldl nthS (k, 0) = st at step ⊢
    obtain ⟨left, row⟩ := st
    refine ⟨q, _, rfl, hq, rfl, _, _, rfl, _, _, rfl, rfl, ?_⟩
    refine ifd (fun h1 => ?_) (fun h1 => ?_)
    · show bIf (decide (left < e - s)) _ _
      refine ifd (fun h2 => ?_) (fun h2 => ?_)
      · refine ⟨?_⟩
        exact ⟨step _ _ _ _ _ (by unfold nthS; rw [if_pos ⟨h1, h2⟩]), hpost H2 (Same.refl _)⟩
      · refine ⟨?_⟩
        exact ⟨step _ _ _ _ _ (by unfold nthS; rw [if_neg fun z => h2 z.2]), hpost H2 (Same.refl _)⟩
    · refine ⟨?_⟩
      exact ⟨step _ _ _ _ _ (by unfold nthS; rw [if_neg fun z => h1 z.1]), hpost H2 (Same.refl _)⟩
  · rintro ys H2 hlen e2 σ1 ⟨x4, x5, rfl⟩
    rw [hlen, List.take_length]
    obtain ⟨⟨lo, hlo, h5⟩, h6, h7, h8⟩ := key
    have l0 := (hE.2 lo (List.mem_of_mem_head? hlo)).1
    refine ⟨?_⟩
    exact good k0 k1 _ H2 (e1.trans e2) (by omega) h6 h7 h8
end S
-- deps: D0 D1
/-! ## loops over the keys of a dict, told at the heap without the lock -/
namespace S
open PySem PySem.Spec PyProof.Rows L2
end S
-- deps: Dgt Pth Nef Answer_init Bitmap_nth Bitmap_ones Held Schema_all_slices_t Fkey
/-! ## one pass through the slices: the nodes at which rows stand -/
namespace S
open PySem PySem.Spec PyProof.Rows L2
/-- the bits of the first L slices in a row -/
def prB (hb : Nat → Int → Bool) (L : Nat) (row : Int) : List Bool := (List.range L).map fun i => hb i row
/-- the node at which a row stands -/
def ndA (t : BT) (hb : Nat → Int → Bool) (L : Nat) (row : Int) : BT := subT t (prB hb L row)
theorem prB_len {hb : Nat → Int → Bool} {L : Nat} {row : Int} : (prB hb L row).length = L := by simp [prB]
/-- an asked row that stands at a node with two different children -/
def ptR (t : BT) (hb : Nat → Int → Bool) (fR : Int → Bool) (L : Nat) (row : Int) : Bool := fR row && decide ((ndA t hb L row).l ≠ (ndA t hb L row).r)
/-- the least row -/
def lrF (n : Int) (p : Int → Bool) : Option Int := ((List.range n.toNat).find? fun r : Nat => p (r : Int)).map fun r : Nat => (r : Int)
/-- why level L's slice is fetched: the least asked row that parts there -/
def rsF (n : Int) (t : BT) (hb : Nat → Int → Bool) (fR : Int → Bool) (L : Nat) : Option Int := lrF n (ptR t hb fR L)
/-- the bits ahead, 0 for slices that were passed -/
def bfF (n : Int) (t : BT) (hb : Nat → Int → Bool) (fR : Int → Bool) (L : Nat) (row : Int) : List Bool := (List.range L).map fun i => (rsF n t hb fR i).isSome && hb i row
def afF (t : BT) (hb : Nat → Int → Bool) (L : Nat) (row : Int) : List Bool := pbT (ndA t hb L row).l (ndA t hb L row).r
/-- how many asked rows stand at settled nodes -/
def stF (n : Int) (t : BT) (hb : Nat → Int → Bool) (fR : Int → Bool) (L : Nat) : Int := cntF (fun row => fR row && fxT (ndA t hb L row)) n.toNat
/-! ### what stays: all but lists, dicts of numbers and texts, instances with six fields -/
def Mv (o : HO) : Prop := (∃ xs, o = .lst xs) ∨ (∃ kv, o = .dK kv) ∨ (∃ od kv, o = .frz od (.dK kv)) ∨ ∃ C dx as, o = .ins C dx as ∧ as.length = 6
def Kp (H H' : Hp) : Prop := ∀ b o, H b = some o → ¬ Mv o → H' b = some o
section
variable {K : Frag} {H H' H2 : Hp}
theorem Kp.refl : Kp H H := fun _ _ h _ => h
theorem Kp.trans (a : Kp H H') (b : Kp H' H2) : Kp H H2 := fun c o h n => b c o (a c o h n) n
theorem Same.kp (e : Same H H') : Kp H H' := fun b o h _ => e b o h
theorem SameX.kp {q : Addr} {o : HO} (e : SameX q H H') (h : H q = some o) (m : Mv o) : Kp H H' := fun b u hb n => e b u hb fun z => by
  subst z
  rw [h] at hb
  cases hb
  exact n m
theorem not_mv {o : HO} (h1 : ∀ xs, o ≠ .lst xs) (h2 : ∀ kv, o ≠ .dK kv) (h3 : ∀ od kv, o ≠ .frz od (.dK kv)) (h4 : ∀ C dx as, o = .ins C dx as → as.length ≠ 6) : ¬ Mv o := by
  rintro (⟨xs, e⟩ | ⟨kv, e⟩ | ⟨od, kv, e⟩ | ⟨C, dx, as, e, l⟩)
  · exact h1 xs e
  · exact h2 kv e
  · exact h3 od kv e
  · exact h4 C dx as e l
theorem Kp.upd {q : Addr} {o u : HO} (h : H q = some o) (m : Mv o) : Kp H (L2.upd H q u) := SameX.upd.kp h m
theorem Kp.tup {a : Addr} {xs : List V} (e : Kp H H') (h : SqT K H a xs) : SqT K H' a xs := by
  rcases h with (h | ⟨o, h⟩) | h
  · exact .inl (.inl (e _ _ h (not_mv (fun _ z => by cases z) (fun _ z => by cases z) (fun _ _ z => by cases z) fun _ _ _ z => by cases z)))
  · exact .inl (.inr ⟨o, e _ _ h (not_mv (fun _ z => by cases z) (fun _ z => by cases z) (fun _ _ z => by cases z) fun _ _ _ z => by cases z)⟩)
  · exact .inr h
theorem Kp.tupF {a : Addr} {xs : List V} (e : Kp H H') (h : TupF H a xs) : TupF H' a xs := let ⟨o, h, c⟩ := h; ⟨o, e _ _ h (not_mv (fun _ z => by cases z) (fun _ z => by cases z) (fun _ _ z => by cases z) fun _ _ _ z => by cases z), c⟩
theorem Kp.slt {a C dx : Addr} {vs : List (Option V)} (e : Kp H H') (h : SlX.Slt H a C dx vs) (n : vs ≠ []) : SlX.Slt H' a C dx vs := by
  rcases h with ⟨h, z⟩ | ⟨h, z⟩
  · exact absurd z n
  · exact .inr ⟨e _ _ h (not_mv (fun _ y => by unfold SlX.SlO at y; cases y) (fun _ y => by unfold SlX.SlO at y; cases y) (fun _ _ y => by unfold SlX.SlO at y; cases y) fun _ _ _ y => by unfold SlX.SlO at y; cases y), e _ _ z (not_mv (fun _ y => by cases y) (fun _ y => by cases y) (fun _ _ y => by cases y) fun _ _ _ y => by cases y)⟩
theorem Kp.bm {a : Addr} {n : Int} {es : List Int} (e : Kp H H') (h : Bm K H a n es) : Bm K H' a n es := by
  obtain ⟨c, n0, hE, dx, p, hs, hp⟩ := h
  exact ⟨c, n0, hE, dx, p, e.slt hs (by intro z; cases z), e.tup hp⟩
theorem Kp.bs {a : Addr} {n : Int} {f : Int → Bool} {S : List Int} (e : Kp H H') (h : Bs K H a n f S) : Bs K H' a n f S := let ⟨es, a, b, c⟩ := h; ⟨es, e.bm a, b, c⟩
theorem Kp.ins {a C dx : Addr} {as : List (Str × V)} (e : Kp H H') (h : H a = some (.ins C dx as)) (l : as.length ≠ 6) : H' a = some (.ins C dx as) := e _ _ h (not_mv (fun _ z => by cases z) (fun _ z => by cases z) (fun _ _ z => by cases z) fun _ _ _ z => by cases z; exact l)
theorem Kp.at_ {a : Addr} {xs : List V} (e : Kp H H') (h : H a = some (.tup xs)) : H' a = some (.tup xs) := e _ _ h (not_mv (fun _ z => by cases z) (fun _ z => by cases z) (fun _ _ z => by cases z) fun _ _ _ z => by cases z)
theorem Kp.colsK {ys : List V} {cs : List Col} (e : Kp H H') (h : ColsK H ys cs) : ColsK H' ys cs := Paired.mapP h fun _ _ ⟨a, h1, h2⟩ => ⟨a, h1, e.at_ h2⟩
theorem Kp.tb {p : Addr} {ls : Lvs} (e : Kp H H') (h : TbG true K H p ls) : TbG true K H' p ls := by
  obtain ⟨xs, hx, hL⟩ := h
  exact ⟨xs, e.tup hx, Paired.mapP hL fun _ _ ⟨ts, h1, h2⟩ => ⟨ts, e.tup h1, Paired.mapP h2 fun _ _ h => e.tup h⟩⟩
theorem Kp.dg {a : Addr} {os : List Col} {t : BT} (e : Kp H H') (h : DgA K H a os t) : DgA K H' a os t := by
  obtain ⟨df, ft, nt, dx, po, pl, pe, ys, ha, ho, hC, hT, hE⟩ := h
  exact ⟨df, ft, nt, dx, po, pl, pe, ys, e.ins ha (by simp), e.tupF ho, e.colsK hC, e.tb hT, e.tup hE⟩
theorem Kp.an {a : Addr} {n : Int} {S : List Int} {fR fY fN : Int → Bool} (e : Kp H H') (h : AnA K H a n S fR fY fN) : AnA K H' a n S fR fY fN := by
  obtain ⟨af, kn, ok, dx, r, y, z, h1, h2, h3, h4⟩ := h
  exact ⟨af, kn, ok, dx, r, y, z, e.ins h1 (by simp), e.bs h2, e.bs h3, e.bs h4⟩
end
/-! ### nth and ones -/
/-! ### the nodes at which rows stand, as a dict -/
def ndK (t : BT) (L : Nat) (u : BT) : Key := .inl ((ixF (lvF L [t]) u : Nat) : Int)
/-- the asked rows that stand at a node -/
def rwN (t : BT) (hb : Nat → Int → Bool) (fR : Int → Bool) (L : Nat) (u : BT) (row : Int) : Bool := fR row && decide (ndA t hb L row = u)
structure StK (K : Frag) (H : Hp) (n : Int) (S : List Int) (fR : Int → Bool) (t : BT) (hb : Nat → Int → Bool) (L : Nat) (kvs : List (Key × V)) : Prop where
  nd : (kvs.map (·.1)).Nodup
  at_ : ∀ k v, (k, v) ∈ kvs → ∃ u b, u ∈ lvF L [t] ∧ k = ndK t L u ∧ v = .ref b ∧ Bs K H b n (rwN t hb fR L u) S ∧ anyR n (rwN t hb fR L u)
  all : ∀ row, 0 ≤ row → row < n → fR row = true → ndK t L (ndA t hb L row) ∈ kvs.map (·.1)
section
variable {K : Frag} {H H' : Hp} {n : Int} {S : List Int} {fR : Int → Bool} {t : BT} {hb : Nat → Int → Bool} {L : Nat} {kvs : List (Key × V)}
theorem StK.kp (h : StK K H n S fR t hb L kvs) (e : Kp H H') : StK K H' n S fR t hb L kvs := ⟨h.nd, fun k v hm => let ⟨u, b, h1, h2, h3, h4, h5⟩ := h.at_ k v hm; ⟨u, b, h1, h2, h3, e.bs h4, h5⟩, h.all⟩
theorem nd_sub {α : Type} [DecidableEq α] : ∀ {l m : List α}, l.Nodup → (∀ x ∈ l, x ∈ m) → l.length ≤ m.length
  | [], _, _, _ => Nat.zero_le _
  | x :: l, m, nd, h => by
    obtain ⟨h1, h2⟩ := List.nodup_cons.mp nd
    have hx := h x (List.mem_cons_self ..)
    have ih := nd_sub (l := l) (m := m.erase x) h2 fun y hy => (List.mem_erase_of_ne fun e => h1 (by rw [← e]; exact hy)).mpr (h y (List.mem_cons_of_mem _ hy))
    have e := List.length_erase_of_mem hx
    have hp := List.length_pos_of_mem hx
    rw [List.length_cons]; omega
theorem StK.len (h : StK K H n S fR t hb L kvs) : kvs.length ≤ (lvF L [t]).length := by
  have := nd_sub (l := kvs.map (·.1)) (m := (lvF L [t]).map (ndK t L)) h.nd fun k hk => by
    obtain ⟨⟨k, v⟩, hm, rfl⟩ := List.mem_map.mp hk
    obtain ⟨u, b, h1, h2, _⟩ := h.at_ k v hm
    exact List.mem_map.mpr ⟨u, h1, h2.symm⟩
  rwa [List.length_map, List.length_map] at this
theorem valV_mem : ∀ {kvs : List (Key × V)} {k : Key} {v : V}, (kvs.map (·.1)).Nodup → (k, v) ∈ kvs → valV kvs k = some v
  | (k', v') :: kvs, k, v, nd, h => by
    obtain ⟨h1, h2⟩ := List.nodup_cons.mp nd
    rcases List.mem_cons.mp h with e | h
    · obtain ⟨rfl, rfl⟩ := Prod.mk.inj e
      exact valV_pos rfl
    · have ne : k' ≠ k := fun e => h1 (List.mem_map.mpr ⟨(k, v), h, e.symm⟩)
      rw [valV_neg ne]
      exact valV_mem h2 h
end
end S
namespace S
open PySem PySem.Spec PyProof.Rows L2
end S
-- fn: Diagram.fixed
-- law: k54
-- deps: Pth Fstay
namespace S
open PySem PySem.Spec PyProof.Rows L2
end S
namespace S
open PySem PySem.Spec PyProof.Rows L2
end S
-- fn: Walk.settled_rows
-- law: k61
-- dY: self.standing
-- deps: Wlk Diagram_fixed
namespace S
open PySem PySem.Spec PyProof.Rows L2
abbrev WkF (K : Frag) : Prop := DF K "Walk" [] ["diagram", "rows", "standing", "ahead", "reasons", "settled"]
/-- the row stands at the node of one of the keys -/
def atK (t : BT) (hb : Nat → Int → Bool) (L : Nat) (ks : List (Key × V)) (row : Int) : Bool := ks.any fun k => decide (k.1 = ndK t L (ndA t hb L row))
theorem atK_iff {t : BT} {hb : Nat → Int → Bool} {L : Nat} {ks : List (Key × V)} {row : Int} : atK t hb L ks row = true ↔ ndK t L (ndA t hb L row) ∈ ks.map (·.1) := by
  unfold atK
  rw [List.any_eq_true, List.mem_map]
  exact ⟨fun ⟨k, h1, h2⟩ => ⟨k, h1, of_decide_eq_true h2⟩, fun ⟨k, h1, h2⟩ => ⟨k, h1, decide_eq_true h2⟩⟩
/-- what stands at key i -/
theorem StK.get {K : Frag} {H : Hp} {n : Int} {S : List Int} {fR : Int → Bool} {t : BT} {hb : Nat → Int → Bool} {L : Nat} {kvs : List (Key × V)} {i : Nat} {k : Key} {v : V} (h : StK K H n S fR t hb L kvs) (hi : kvs[i]? = some (k, v)) :
    ∃ u b, u ∈ lvF L [t] ∧ k = ndK t L u ∧ v = .ref b ∧ valV kvs k = some (.ref b) ∧ Bs K H b n (rwN t hb fR L u) S ∧ anyR n (rwN t hb fR L u) ∧ kvs.take (i + 1) = kvs.take i ++ [(k, v)] ∧ ∀ row, ndA t hb L row = u → atK t hb L (kvs.take i) row = false := by
  have hm := List.mem_of_getElem? hi
  obtain ⟨u, b, h1, h2, h3, h4, h5⟩ := h.at_ k v hm
  have il : i < kvs.length := (List.getElem?_eq_some_iff.mp hi).1
  have et : kvs.take (i + 1) = kvs.take i ++ [(k, v)] := by rw [List.take_add_one, hi]; rfl
  refine ⟨u, b, h1, h2, h3, by rw [valV_mem h.nd hm, h3], h4, h5, et, fun row hr => ?_⟩
  cases g : atK t hb L (kvs.take i) row with
  | false => rfl
  | true =>
    have g := atK_iff.mp g
    rw [hr, ← h2] at g
    have nd : ((kvs.take (i + 1)).map (·.1)).Nodup := h.nd.sublist (List.Sublist.map _ (List.take_sublist _ _))
    rw [et, List.map_append, List.nodup_append] at nd
    exact absurd rfl (nd.2.2 k g k (by simp))
end S
-- deps: Walk_settled_rows
/-! ## a walk on the heap -/
namespace S
open PySem PySem.Spec PyProof.Rows L2
/-- the slices' bits -/
def hbE (es : Nat → List Int) (i : Nat) (row : Int) : Bool := inB (es i) row
/-- what stands ahead for level j: the bitmap if it was fetched, None otherwise -/
def AhP (K : Frag) (H : Hp) (n : Int) (fR : Int → Bool) (t : BT) (es : Nat → List Int) (j : Nat) (v : V) : Prop := match rsF n t (hbE es) fR j with
  | none => v = .non
  | some _ => ∃ b, v = .ref b ∧ Bm K H b n (es j)
/-- level j's reason -/
def RsV (K : Frag) (H : Hp) (n : Int) (fR : Int → Bool) (t : BT) (es : Nat → List Int) (j : Nat) (v : V) : Prop := ∃ (q p1 p2 : Addr) (row : Int), rsF n t (hbE es) fR j = some row ∧ v = .ref q ∧ SqT K H q [.int row, .ref p1, .ref p2] ∧ SqT K H p1 ((bfF n t (hbE es) fR j row).map btV) ∧ SqT K H p2 ((afF t (hbE es) j row).map btV)
/-- the fetched levels below L -/
def ftL (n : Int) (fR : Int → Bool) (t : BT) (es : Nat → List Int) (L : Nat) : List Nat := (List.range L).filter fun j => (rsF n t (hbE es) fR j).isSome
structure WkA (K : Frag) (H : Hp) (w dg r st ah rs se : Addr) (n : Int) (S : List Int) (fR : Int → Bool) (os : List Col) (t : BT) (es : Nat → List Int) (L : Nat) : Prop where
  wf : WkF K
  hw : ∃ dx, H w = some (.ins (He.ga K "Walk") dx [("diagram", .ref dg), ("rows", .ref r), ("standing", .ref st), ("ahead", .ref ah), ("reasons", .ref rs), ("settled", .ref se)])
  hd : DgA K H dg os t
  hr : Bs K H r n fR S
  hst : ∃ kvs, H st = some (.dK kvs) ∧ StK K H n S fR t (hbE es) L kvs
  hah : ∃ xs, H ah = some (.lst xs) ∧ Paired (AhP K H n fR t es) (List.range L) xs
  hrs : ∃ ys, H rs = some (.lst ys) ∧ Paired (RsV K H n fR t es) (ftL n fR t es L) ys
  hse : H se = some (.lst ((List.range (L + 1)).map fun j => .int (stF n t (hbE es) fR j)))
  n1 : ah ≠ rs
  n2 : ah ≠ se
  n3 : rs ≠ se
  le : L ≤ os.length
  lo : os.length ≤ 100000
  kn : Kn S
  hn : n ≤ 2 * 10 ^ 18
section
variable {K : Frag} {H H' : Hp} {w dg r st ah rs se : Addr} {n : Int} {S : List Int} {fR : Int → Bool} {os : List Col} {t : BT} {es : Nat → List Int} {L j : Nat} {v : V}
theorem AhP.kp (h : AhP K H n fR t es j v) (e : Kp H H') : AhP K H' n fR t es j v := by
  unfold AhP at h ⊢
  split
  · rename_i g; rw [g] at h; exact h
  · rename_i g; rw [g] at h; exact let ⟨b, h1, h2⟩ := h; ⟨b, h1, e.bm h2⟩
theorem RsV.kp (h : RsV K H n fR t es j v) (e : Kp H H') : RsV K H' n fR t es j v := let ⟨q, p1, p2, row, h0, h1, h2, h3, h4⟩ := h; ⟨q, p1, p2, row, h0, h1, e.tup h2, e.tup h3, e.tup h4⟩
theorem WkA.same (h : WkA K H w dg r st ah rs se n S fR os t es L) (e : Same H H') : WkA K H' w dg r st ah rs se n S fR os t es L where
  wf := h.wf
  hw := let ⟨dx, h⟩ := h.hw; ⟨dx, e _ _ h⟩
  hd := h.hd.same e
  hr := h.hr.same e
  hst := let ⟨kvs, h1, h2⟩ := h.hst; ⟨kvs, e _ _ h1, h2.kp (Same.kp e)⟩
  hah := let ⟨xs, h1, h2⟩ := h.hah; ⟨xs, e _ _ h1, Paired.mapP h2 fun _ _ h => h.kp (Same.kp e)⟩
  hrs := let ⟨xs, h1, h2⟩ := h.hrs; ⟨xs, e _ _ h1, Paired.mapP h2 fun _ _ h => h.kp (Same.kp e)⟩
  hse := e _ _ h.hse
  n1 := h.n1
  n2 := h.n2
  n3 := h.n3
  le := h.le
  lo := h.lo
  kn := h.kn
  hn := h.hn
/-- another object changes -/
theorem WkA.x {q : Addr} {o : HO} (h : WkA K H w dg r st ah rs se n S fR os t es L) (e : SameX q H H') (hq : H q = some o) (m : Mv o) (q1 : q ≠ w) (q2 : q ≠ st) (q3 : q ≠ ah) (q4 : q ≠ rs) (q5 : q ≠ se) : WkA K H' w dg r st ah rs se n S fR os t es L where
  wf := h.wf
  hw := let ⟨dx, h⟩ := h.hw; ⟨dx, e _ _ h (Ne.symm q1)⟩
  hd := (e.kp hq m).dg h.hd
  hr := (e.kp hq m).bs h.hr
  hst := let ⟨kvs, h1, h2⟩ := h.hst; ⟨kvs, e _ _ h1 (Ne.symm q2), h2.kp (e.kp hq m)⟩
  hah := let ⟨xs, h1, h2⟩ := h.hah; ⟨xs, e _ _ h1 (Ne.symm q3), Paired.mapP h2 fun _ _ h => h.kp (e.kp hq m)⟩
  hrs := let ⟨xs, h1, h2⟩ := h.hrs; ⟨xs, e _ _ h1 (Ne.symm q4), Paired.mapP h2 fun _ _ h => h.kp (e.kp hq m)⟩
  hse := e _ _ h.hse (Ne.symm q5)
  n1 := h.n1
  n2 := h.n2
  n3 := h.n3
  le := h.le
  lo := h.lo
  kn := h.kn
  hn := h.hn
end
end S
namespace S
open PySem PySem.Spec PyProof.Rows L2
end S
-- fn: Walk.__init__
-- law: k61
-- own: bool=Bitmap
-- dY: self.standing
-- deps: Wka Ins
namespace S
open PySem PySem.Spec PyProof.Rows L2
theorem bs_cgW {K : Frag} {H : Hp} {z : Addr} {n : Int} {f g : Int → Bool} {S : List Int} (h : Bs K H z n f S) (e : ∀ row, 0 ≤ row → row < n → f row = g row) : Bs K H z n g S := let ⟨es, a, b, c⟩ := h; ⟨es, a, b, fun row r0 r1 => by rw [c row r0 r1, e row r0 r1]⟩
end S
-- deps: Walk_init Wka
/-! ## rows go on to the nodes of the next level -/
namespace S
open PySem PySem.Spec PyProof.Rows L2
section
variable {K : Frag} {W W' : Hp} {n : Int} {S : List Int} {f f' gm : Int → Bool} {t v : BT} {hb : Nat → Int → Bool} {L : Nat} {mv : List (Key × V)} {z : Addr}
theorem rwN_congr {u : BT} {row : Int} (h : f row = f' row) : rwN t hb f L u row = rwN t hb f' L u row := by unfold rwN; rw [h]
theorem StK.congr (h : StK K W n S f t hb L mv) (e : ∀ row, 0 ≤ row → row < n → f row = f' row) : StK K W n S f' t hb L mv where
  nd := h.nd
  at_ := fun k v hm => let ⟨u, b, h1, h2, h3, h4, r, r0, r1, h5⟩ := h.at_ k v hm; ⟨u, b, h1, h2, h3, bs_cgW h4 fun row r0 r1 => rwN_congr (e row r0 r1), r, r0, r1, by rw [← rwN_congr (e r r0 r1)]; exact h5⟩
  all := fun row r0 r1 hr => h.all row r0 r1 (by rw [e row r0 r1]; exact hr)
end
end S
namespace S
open PySem PySem.Spec PyProof.Rows L2
end S
-- fn: Walk.step
-- law: k61
-- own: BitAnd=Bitmap Sub=Bitmap BitOr=Bitmap bool=Bitmap
-- dY: moved self.standing
-- deps: Wst Fstay
namespace S
open PySem PySem.Spec PyProof.Rows L2
end S
namespace S
open PySem PySem.Spec PyProof.Rows L2
end S
-- fn: Reading.__init__
-- law: k61
-- deps: Wka Ins
namespace S
open PySem PySem.Spec PyProof.Rows L2
end S
-- deps: Lc
/-! ## a comprehension over a zip of two sequences -/
namespace S
open PySem PySem.Spec PyProof.Rows L2
end S
namespace S
open PySem PySem.Spec PyProof.Rows L2
end S
-- fn: Walk.reading
-- law: k61
-- dY: found self.standing
-- zipU: yes
-- deps: Wka Reading_init Bitmap_empty Lzp Walk_init Lcg
namespace S
open PySem PySem.Spec PyProof.Rows L2
end S
namespace S
open PySem PySem.Spec PyProof.Rows L2
end S
-- fn: Diagram.parting
-- law: k54
-- deps: Diagram_fixed _law_run
namespace S
open PySem PySem.Spec PyProof.Rows L2
end S
namespace S
open PySem PySem.Spec PyProof.Rows L2
end S
-- fn: Walk.reason
-- law: k61
-- in: Bitmap
-- dY: self.standing
-- deps: Wka Diagram_parting Bitmap_contains Lcg
namespace S
open PySem PySem.Spec PyProof.Rows L2
end S
-- deps: Walk_step Walk_reading Walk_reason
/-! ## several walks side by side -/
namespace S
open PySem PySem.Spec PyProof.Rows L2
structure Wkr where
  t : BT
  dg : Addr
  w : Addr
  st : Addr
  ah : Addr
  rs : Addr
  se : Addr
  L : Nat
def Wkr.no (q : Addr) (v : Wkr) : Prop := q ≠ v.w ∧ q ≠ v.st ∧ q ≠ v.ah ∧ q ≠ v.rs ∧ q ≠ v.se
def Wkr.dj (a b : Wkr) : Prop := Wkr.no a.w b ∧ Wkr.no a.ah b ∧ Wkr.no a.rs b ∧ Wkr.no a.se b
abbrev Wkr.ok (K : Frag) (H : Hp) (r : Addr) (n : Int) (S : List Int) (fR : Int → Bool) (os : List Col) (es : Nat → List Int) (v : Wkr) : Prop := WkA K H v.w v.dg r v.st v.ah v.rs v.se n S fR os v.t es v.L
section
variable {K : Frag} {H0 H H' : Hp} {M : List Addr} {r : Addr} {n : Int} {S : List Int} {fR : Int → Bool} {os : List Col} {es : Nat → List Int} {Ws : List Wkr} {v : Wkr}
theorem Wkr.ok.here (h : v.ok K H r n S fR os es) : (∃ o, H v.w = some o) ∧ (∃ o, H v.st = some o) ∧ (∃ o, H v.ah = some o) ∧ (∃ o, H v.rs = some o) ∧ ∃ o, H v.se = some o := by
  obtain ⟨dx, hw⟩ := h.hw
  obtain ⟨k, hst, _⟩ := h.hst
  obtain ⟨xs, hah, _⟩ := h.hah
  obtain ⟨ys, hrs, _⟩ := h.hrs
  exact ⟨⟨_, hw⟩, ⟨_, hst⟩, ⟨_, hah⟩, ⟨_, hrs⟩, ⟨_, h.hse⟩⟩
/-- what is not there yet is no part of a walk -/
theorem Wkr.ok.no (h : v.ok K H r n S fR os es) {q : Addr} (nq : H q = none) : Wkr.no q v := by
  obtain ⟨⟨_, h1⟩, ⟨_, h2⟩, ⟨_, h3⟩, ⟨_, h4⟩, ⟨_, h5⟩⟩ := h.here
  refine ⟨?_, ?_, ?_, ?_, ?_⟩ <;> rintro rfl
  · rw [nq] at h1; cases h1
  · rw [nq] at h2; cases h2
  · rw [nq] at h3; cases h3
  · rw [nq] at h4; cases h4
  · rw [nq] at h5; cases h5
end
end S
namespace S
open PySem PySem.Spec PyProof.Rows L2
def t_Store_fetch_3 (K : Frag) (E : XK) : TS :=
    tRet (tOp (oIxD K) (dAt K "held" (dVar 0)) (dTupK (tCons (dVar 1) (tCons (dVar 2) (tNil)))))
def t_Store_fetch_2 (K : Frag) (E : XK) : TS :=
    tSeq (tDrop (dML K mApp (dAt K "log" (dVar 0)) (tCons (dTupK (tCons (dVar 1) (tCons (dVar 2) (tNil)))) (tNil))))
    (stop (t_Store_fetch_3 K E))
def t_Store_fetch_1 (K : Frag) (E : XK) : TS :=
    tSeq (dIfS (dNot (dChainT oLe oLt (tUn uNeg (tC (.int 1))) (dVar 2) (dVar 3))) (dGivS (ExF K "NoSuchSlice" ["SliceError"]) (dRsI2 K "NoSuchSlice" "name" "place" (WD E) (tCons (dVar 1) (tCons (dVar 2) (tNil))))) (tNext))
    (stop (t_Store_fetch_2 K E))
def t_Store_fetch (K : Frag) (E : XK) : TS :=
    tSeq (tAsg (dMethD K "Schema" "width_of" (sp_Schema_width_of K) (EW E) (dAt K "schema" (dVar 0)) (tCons (dVar 1) (tNil))) (gName 3))
    (stop (t_Store_fetch_1 K E))
end S
namespace S
open PySem PySem.Spec PyProof.Rows L2
end S
namespace S
open PySem PySem.Spec PyProof.Rows L2
end S
-- fn: Store.fetch Store.forget Store.fetched
-- law: k43
-- dict: self.held
-- tupK: yes
-- deps: Store_init Ins Schema_width_of
namespace S
open PySem PySem.Spec PyProof.Rows L2
def sp_Store_fetch (K : Frag) : Sp := fun vs H Q E => ∃ (x l d : Addr) (cs : List Col) (n : Int) (he : Col → List Int) (lg : List Col) (z : Str) (p : Int), vs = [.ref x, .str z, .int p] ∧ StO K H x l d cs n he lg ∧ lg.length ≤ 100000 ∧
  ((z, p) ∈ slicesOf cs → ∀ b H', SameX l H H' → StO K H' x l d cs n he (lg ++ [(z, p)]) → Bm K H' b n (he (z, p)) → Q (.ref b) H') ∧
  ((∀ c ∈ cs, c.1 ≠ z) → XE K "NoSuchColumn" → ∀ d, H d = none → E (.ref (He.ga K "NoSuchColumn")) (some d) (upd H d (.xd [("name", .str z)]))) ∧
  (∀ w, (z, w) ∈ cs → ¬ (-1 ≤ p ∧ p < w) → XE K "NoSuchSlice" → ∀ d, H d = none → E (.ref (He.ga K "NoSuchSlice")) (some d) (upd H d (.xd [("place", .int p), ("name", .str z)])))
theorem pure_Store_fetch {K : Frag} (vs : List V) (H : Hp) (Q : VK) (E : XK) (h : sp_Store_fetch K vs H Q E) : t_Store_fetch K E { nx := fun _ H' => Q .non H', rt := Q } (start ["self", "name", "place", "width"] vs) H := by
  obtain ⟨x, l, d, cs, n, he, lg, z, p, rfl, hO, llg, good, bad1, bad2⟩ := h
  obtain ⟨sf, n0, hw, lc, dx, s, tl, hx, hS, hH, hl, hC⟩ := id hO
  obtain ⟨scf, gc, _, dxs, us, yss, hs, _⟩ := id hS
  walk_at "gx"
  refine Atr.df sf hx rfl ?_
  refine IsD.of hs ?_
  refine ⟨s, cs, z, rfl, hS, fun w hwz => ?_, fun no xe => bad1 no xe⟩
  have l1 := Paired.length hC
  have app : ∀ (D : L2.Ends) (q : D.rt = Q), -1 ≤ p → p < w → (stop (t_Store_fetch_2 K E)) D [some (.ref x), some (.str z), some (.int p), some (.int w)] H := by
    intro D eD h1 h2
    have hin : (z, p) ∈ slicesOf cs := slicesOf_mem.mpr ⟨(z, w), hwz, rfl, h1, h2⟩
    walk_at "gx"
    refine Atr.df sf hx rfl ?_
    refine IsL.of hl ?_
    walk_at "gx"
    refine ⟨fun t nt => ?_⟩
    have e1 := same_new (o := .tup [.str z, .int p]) nt
    have ht : upd H t (.tup [.str z, .int p]) t = some (.tup [.str z, .int p]) := upd_same
    generalize upd H t (.tup [.str z, .int p]) = H1 at *
    have hl1 := e1 _ _ hl
    refine Ls.of hl1 (Need.mk (by rw [sizeLine_eq]; omega) ?_)
    dsimp only
    have ex : SameX l H1 (upd H1 l (.lst (tl ++ [.ref t]))) := SameX.upd
    have hO1 := hO.same e1
    have hl2 : upd H1 l (.lst (tl ++ [.ref t])) l = some (.lst (tl ++ [.ref t])) := upd_same
    have hx2 := ex _ _ (e1 _ _ hx) (ne_of (e1 _ _ hx) hl1 fun z => by cases z)
    have hS2 := (hS.same e1).x ex hl1
    have hH2 := (hH.same e1).x ex hl1
    have hC2 := cols_snoc (c := (z, p)) ((hC.same e1).x ex hl1) ⟨t, rfl, ex.tup (SqT.of ht) hl1⟩
    have e02 : SameX l H (upd H1 l (.lst (tl ++ [.ref t]))) := Same.thenX e1 ex
    generalize upd H1 l (.lst (tl ++ [.ref t])) = H2 at *
    walk_at "gx"
    refine Atr.df sf hx2 rfl ?_
    refine Need.mk (by rw [sizeLine_eq]; show 2 ≤ 16777216; decide) ⟨fun u nu => ?_⟩
    have e3 := same_new (o := .tup [.str z, .int p]) nu
    have hu : upd H2 u (.tup [.str z, .int p]) u = some (.tup ((keyC (z, p)).map kV)) := upd_same
    show DG (upd H2 u (.tup [.str z, .int p])) d (.ref u) _
    generalize upd H2 u (.tup [.str z, .int p]) = H3 at *
    obtain ⟨kvs, hd, hk, hv⟩ := hH2.same e3
    obtain ⟨b, hb1, hb2⟩ := hv _ hin
    refine DG.t (.inl hd) hu hb1 ?_
    rw [eD]
    exact good hin b H3 (e02.then e3) ⟨sf, n0, hw, lc, dx, s, _, e3 _ _ hx2, hS2.same e3, ⟨kvs, hd, hk, hv⟩, e3 _ _ hl2, hC2.same e3⟩ hb2
  have raise : ¬ (-1 ≤ p ∧ p < w) → ∀ D, (dGivS (ExF K "NoSuchSlice" ["SliceError"]) (dRsI2 K "NoSuchSlice" "name" "place" (WD E) (tCons (dVar 1) (tCons (dVar 2) (tNil))))) D [some (.ref x), some (.str z), some (.int p), some (.int w)] H := fun hb D xf => by
    refine RsI2.of fun d nd => ?_
    exact bad2 w hwz hb xf d nd
  walk_at "gx"
  refine ifd (fun h1 => ?_) (fun h1 => ?_)
  · have h1 : -1 ≤ p := h1
    walk_at "gx"
    refine ifb (fun h2 => ?_) (fun h2 => ?_)
    · have h2 : ¬ p < w := by
        intro h
        have h2 : (!decide (p < w)) = true := h2
        rw [decide_eq_true h] at h2; cases h2
      exact raise (fun g => h2 g.2) _
    · have h2 : p < w := by
        have h2 : (!decide (p < w)) = false := h2
        by_cases h : p < w
        · exact h
        · rw [decide_eq_false h] at h2; cases h2
      exact app _ rfl h1 h2
  · exact raise (fun g => h1 g.1) _
/-- a store's own dict is written -/
theorem StO.forget {K : Frag} {H H' : Hp} {x l l' dx s d : Addr} {cs : List Col} {n : Int} {he : Col → List Int} {lg : List Col} {fs : List (Str × V)} (h : StO K H x l d cs n he lg) (hx : H x = some (.ins (He.ga K "Store") dx [("schema", .ref s), ("size", .int n), ("held", .ref d), ("log", .ref l)])) (e : SameX x H H') (hx' : H' x = some (.ins (He.ga K "Store") dx [("schema", .ref s), ("size", .int n), ("held", .ref d), ("log", .ref l')])) (hl : H' l' = some (.lst [])) : StO K H' x l' d cs n he [] := by
  obtain ⟨sf, n0, hw, lc, dx', s', tl, hx2, hS, hH, _, _⟩ := h
  rw [hx] at hx2
  cases hx2
  obtain ⟨scf, gc, ll, dxs, us, yss, hs, hu, hC⟩ := hS
  obtain ⟨kvs, hd, hk, hv⟩ := hH
  refine ⟨sf, n0, hw, lc, dx, s, [], hx', ⟨scf, gc, ll, dxs, us, yss, e _ _ hs (ne_of hs hx fun z => by injection z with _ _ h; simp at h), e.tupI hx hu, hC.xi e hx⟩, ⟨kvs, e _ _ hd (ne_of hd hx fun z => by cases z), hk, fun c hc => ?_⟩, hl, .nil⟩
  obtain ⟨b, h1, h2⟩ := hv c hc
  exact ⟨b, h1, h2.xi e hx⟩
end S
namespace S
open PySem PySem.Spec PyProof.Rows L2
end S
-- fn: read_together
-- law: k61
-- zipU: yes
-- deps: Wks Store_fetch Schema_is_order Diagram_joined Inu Bitmap_empty Fstay
namespace S
open PySem PySem.Spec PyProof.Rows L2
/-- the ends of the slices in an order -/
def esO (he : Col → List Int) (os : List Col) (j : Nat) : List Int := match os[j]? with
  | some c => he c
  | none => []
section
variable {K : Frag} {E : XK} {Dn : L2.Ends} {H Y : Hp} {p x r po D l d R : Addr} {x4 x6 x7 x8 x9 x10 x11 : Option V} {n : Int} {S : List Int} {fR : Int → Bool} {os cs : List Col} {he : Col → List Int} {lg : List Col} {Ws : List Wkr} {L : Nat} {vs : List V} {vb : V} {M : List Addr}
end
end S
namespace S
open PySem PySem.Spec PyProof.Rows L2
end S
-- fn: read
-- law: k61
-- deps: read_together
namespace S
open PySem PySem.Spec PyProof.Rows L2
end S
namespace S
open PySem PySem.Spec PyProof.Rows L2
end S
-- fn: Store.slices_of
-- law: k44
-- dict: self.held
-- tupK: yes
-- deps: Store_fetch Lr
namespace S
open PySem PySem.Spec PyProof.Rows L2
end S
namespace S
open PySem PySem.Spec PyProof.Rows L2
end S
-- fn: Column.at
-- law: k15
-- in: Bitmap
-- deps: Column_at
namespace S
open PySem PySem.Spec PyProof.Rows L2
end S
namespace S
open PySem PySem.Spec PyProof.Rows L2
end S
namespace S
open PySem PySem.Spec PyProof.Rows L2
end S
-- fn: Store.column Store.__getitem__
-- law: k44
-- dict: self.held
-- tupK: yes
-- in: Bitmap
-- deps: Store_slices_of Column_at2
namespace S
open PySem PySem.Spec PyProof.Rows L2
/-- the value of a row, the rows of its slices told -/
def valS (he : Col → List Int) (z : Str) (w : Int) (row : Int) : Int := twos ((List.range w.toNat).map fun i : Nat => inB (he (z, (i : Int))) row)
def colS (he : Col → List Int) (z : Str) (w : Int) : Int → Option Int := fun row => if inB (he (z, -1)) row = true then some (valS he z w row) else none
end S
namespace S
open PySem PySem.Spec PyProof.Rows L2
end S
-- fn: multiplied
-- law: k14
-- own: BitAnd=Bitmap
-- deps: added narrowed Tw
namespace S
open PySem PySem.Spec PyProof.Rows L2
section
variable {K : Frag} {E : XK} {Q : VK}
end
end S
namespace S
open PySem PySem.Spec PyProof.Rows L2
end S
-- fn: Column.__mul__
-- law: k19
-- own: BitAnd=Bitmap
-- deps: Column_ops multiplied
namespace S
open PySem PySem.Spec PyProof.Rows L2
end S
namespace S
open PySem PySem.Spec PyProof.Rows L2
end S
-- fn: Column.__rmul__
-- law: k19
-- ownL: Mult=Column
-- deps: Column_mul
namespace S
open PySem PySem.Spec PyProof.Rows L2
end S
namespace S
open PySem PySem.Spec PyProof.Rows L2
end S
-- fn: Column.__abs__
-- law: k19
-- own: BitXor=Bitmap
-- deps: Column_ops Bitmap_empty extended added
namespace S
open PySem PySem.Spec PyProof.Rows L2
end S
namespace S
open PySem PySem.Spec PyProof.Rows L2
end S
-- fn: Column.__radd__
-- law: k18
-- ownL: Add=Column
-- deps: Column_ops
namespace S
open PySem PySem.Spec PyProof.Rows L2
end S
namespace S
open PySem PySem.Spec PyProof.Rows L2
end S
-- fn: Column.__sub__
-- law: k18
-- own: BitAnd=Bitmap
-- deps: Column_ops
namespace S
open PySem PySem.Spec PyProof.Rows L2
def sp_Columndd_subdd (K : Frag) : Sp := fun vs H Q E => ∃ (c : Addr) (x : V) (n m : Int) (vf wf : Int → Option Int) (S S2 : List Int), vs = [.ref c, x] ∧ Cm K H c n vf S ∧ RightC K H n x m wf S2 ∧ S.length + S2.length ≤ 1000 ∧ (∀ row, widO (vf row) ≤ 400) ∧ (∀ row, widO (wf row) ≤ 400) ∧
  (n = m → ∀ z H', Same H H' → H z = none → Cm K H' z n (fun row => opO (fun a b => a - b) (vf row) (wf row)) (S ++ S2) → Q (.ref z) H') ∧ (n ≠ m → XF K "SizesDiffer" → ∀ H', Same H H' → E (.ref (He.ga K "SizesDiffer")) none H')
end S
namespace S
open PySem PySem.Spec PyProof.Rows L2
end S
-- fn: Column.__rsub__
-- law: k18
-- own: Sub=Column
-- deps: Column_sub
namespace S
open PySem PySem.Spec PyProof.Rows L2
end S
namespace S
open PySem PySem.Spec PyProof.Rows L2
end S
-- fn: Column.__neg__
-- law: k18
-- deps: Column_ops
namespace S
open PySem PySem.Spec PyProof.Rows L2
end S
-- deps: Column_ops
/-! ## widths of results -/
namespace S
open PySem PySem.Spec PyProof.Rows L2
end S
-- deps: Column_rmul Column_shift Column_abs Column_radd Column_rsub Column_neg Column_sub Wid0
/-! ## the columns' operators, as steps -/
namespace S
open PySem PySem.Spec PyProof.Rows L2
section
variable {K : Frag} {H : Hp} {x y : Addr} {n : Int} {vf wf : Int → Option Int} {S S2 : List Int} {k : VK} {E2 : XK}
theorem Cm.slt (h : Cm K H x n vf S) : ∃ dx vs, SlX.Slt H x (He.ga K "Column") dx vs := by
  obtain ⟨_, _, _, dx, _, _, _, sl, _⟩ := h
  exact ⟨dx, _, sl⟩
theorem subC (hx : Cm K H x n vf S) (hy : Cm K H y n wf S2) (lS : S.length + S2.length ≤ 1000) (wx : ∀ row, widO (vf row) ≤ 400) (wy : ∀ row, widO (wf row) ≤ 400)
    (q : ∀ z H', Same H H' → H z = none → Cm K H' z n (fun row => opO (fun a b => a - b) (vf row) (wf row)) (S ++ S2) → k (.ref z) H') : IsO K H "Column" x (IsO K H "Column" y (sp_Columndd_subdd K [.ref x, .ref y] H k E2)) := by
  obtain ⟨_, _, sl⟩ := hx.slt
  obtain ⟨_, _, sl2⟩ := hy.slt
  exact .of sl (.of sl2 ⟨x, _, n, n, vf, wf, S, S2, rfl, hx, .inl ⟨y, rfl, hy⟩, lS, wx, wy, fun _ z H' e nz hz => q z H' e nz hz, fun z => absurd rfl z⟩)
end
/-! ### widths -/
end S
namespace S
open PySem PySem.Spec PyProof.Rows L2
end S
-- fn: form_column
-- law: k47
-- own: Add=Column
-- ownL: Mult=Column
-- deps: Store_col Column_uniform Ops Rw3 Form_init
namespace S
open PySem PySem.Spec PyProof.Rows L2
/-- a row of a store: each name's value -/
def rowS (he : Col → List Int) (cs : List Col) (row : Int) : Row := cs.map fun c => (c.1, colS he c.1 c.2 row)
end S
-- deps: Rw
/-! ## rows, built by stores -/
namespace S
open PySem PySem.Spec PyProof.Rows L2
end S
namespace S
open PySem PySem.Spec PyProof.Rows L2
end S
namespace S
open PySem PySem.Spec PyProof.Rows L2
end S
-- fn: _law_values
-- law: k44
-- dict: _law_found
-- deps: Cols M44 Fstay Schema_init Rw2
namespace S
open PySem PySem.Spec PyProof.Rows L2
end S
namespace S
open PySem PySem.Spec PyProof.Rows L2
end S
-- fn: _law_starts
-- law: k47
-- deps: D0 D1 Dat Fstay
namespace S
open PySem PySem.Spec PyProof.Rows L2
end S
-- deps: form_column _law_values _law_starts_k47 L43a Held Cols M44 Fstay Sm0
/-! ## a law's store: slices told by a table of ends -/
namespace S
open PySem PySem.Spec PyProof.Rows L2
theorem prK_at47 {α β : Type} {P : α → β → Prop} : ∀ {xs : List α} {ys : List β} {i : Nat} {x : α}, Paired P xs ys → xs[i]? = some x → ∃ y, ys[i]? = some y ∧ P x y
  | _, _, i, _, .nil, h => by simp at h
  | _, _, 0, _, .cons h _, e => by
    rw [List.getElem?_cons_zero] at e
    cases e
    exact ⟨_, rfl, h⟩
  | _, _, i + 1, _, .cons _ t, e => by
    rw [List.getElem?_cons_succ] at e
    obtain ⟨x, hx, hp⟩ := prK_at47 t e
    exact ⟨x, by rw [List.getElem?_cons_succ]; exact hx, hp⟩
end S
-- deps: Bd read E47 form_column Bitmap_init
/-! ## what a pass tells of the rows, by the law's own values -/
namespace S
open PySem PySem.Spec PyProof.Rows L2
theorem val_run {m : Nat} {t : BT} {bs : List Bool} (ft : t.full m) (lb : bs.length = m) : (subT t bs).val = t.run bs := by
  have h := run_sub (m := 0) (t := t) (bs := bs) [] (by rw [Nat.add_zero, lb]; exact ft)
  rw [List.append_nil] at h
  have hf := sub_full (m := 0) (t := t) (bs := bs) (by rw [Nat.add_zero, lb]; exact ft)
  rw [h]
  cases e : subT t bs with
  | lf o => rfl
  | nd a b => rw [e] at hf; exact hf.elim
theorem bAt_row {he : Col → List Int} {os : List Col} {c : Col} {row : Int} (nd : os.Nodup) (hc : c ∈ os) : bAt os (prB (hbE (esO he os)) os.length row) c = inB (he c) row := by
  obtain ⟨i, hi⟩ := List.mem_iff_getElem?.mp hc
  have il := (List.getElem?_eq_some_iff.mp hi).1
  have ex : ixF os c = i := ixF_selfG nd hi
  unfold bAt prB
  rw [ex, List.getD_eq_getElem?_getD, List.getElem?_map, List.getElem?_range il]
  show hbE (esO he os) i row = _
  unfold hbE esO
  rw [hi]
theorem rowB_row {he : Col → List Int} {cs os : List Col} {row : Int} (pm : os.Perm (slicesOf cs)) (g : goodC cs) : rowB cs os (prB (hbE (esO he os)) os.length row) = rowS he cs row := by
  have nd : os.Nodup := pm.nodup_iff.mpr (slicesOf_nodup g.1)
  unfold rowB rowS
  refine List.map_congr_left fun c hc => ?_
  have hb : ∀ i : Int, -1 ≤ i → i < c.2 → bAt os (prB (hbE (esO he os)) os.length row) (c.1, i) = inB (he (c.1, i)) row := fun i i0 i1 => bAt_row nd (pm.mem_iff.mpr (slicesOf_mem.mpr ⟨c, hc, rfl, i0, i1⟩))
  have h1 := (g.2 c hc).2
  unfold colS valS numB
  rw [hb (-1) (by omega) (by omega)]
  have : (List.range c.2.toNat).map (fun i : Nat => bAt os (prB (hbE (esO he os)) os.length row) (c.1, (i : Int))) = (List.range c.2.toNat).map (fun i : Nat => inB (he (c.1, (i : Int))) row) := List.map_congr_left fun i hi => hb i (by omega) (by have := List.mem_range.mp hi; omega)
  rw [this]
section
variable {K : Frag} {B Z : Hp} {a st p r po : Addr} {ys zs : List V} {cs os : List Col} {xs : List Addr} {ss : List Stp} {q : Qs} {M : Nat}
/-- the answer of a row's node is the answer of its values -/
theorem Bd.an (b : Bd K B Z a st p r po ys zs cs os xs ss q M) (h : M ≤ 10) (he : Col → List Int) (row : Int) : (ndA (qT cs os q) (hbE (esO he os)) os.length row).val = ans (rowS he cs row) q := by
  unfold ndA
  rw [val_run (b.full h) prB_len, b.run h prB_len, rowB_row b.pm b.g]
end
end S
namespace S
open PySem PySem.Spec PyProof.Rows L2
def t__law_choice_b2 (K : Frag) (E : XK) : TS :=
    tAsg (tOp (oAdd K) (tOp oMulA (tC (.int 2)) (dVar 6)) (tOp (oIx K) (dVar 7) (dVar 5))) (gName 6)
def t__law_choice_b1 (K : Frag) (E : XK) : TS :=
    dIfS (dCmpT (oEq K) (tOp (oIx K) (tOp (oIx K) (dVar 0) (tC (.int 0))) (dVar 5)) (tC (.int 1))) (tSeq (tAsg (tOp oSub (tC (.int 0)) (tOp (oIx K) (tOp (oIx K) (dVar 0) (tC (.int 1))) (dVar 5))) (gName 6))
    (tSeq (dFor (iSeq K (tSl (oSl K) (dVar 0) (dPart (tC (.int 2))) (tNoPart))) (gName 7) (t__law_choice_b2 K E))
    (tSeq (dIfS (dTest K (dVar 3)) (tAsg (tOp oSub (tC (.int 0)) (dVar 6)) (gName 6)) (tNext))
    (tDrop (dML K mApp (dVar 4) (tCons (dTupK (tCons (dVar 6) (tCons (tOp (oIx K) (dVar 1) (dVar 5)) (tNil)))) (tNil))))))) (tNext)
def t__law_choice_2 (K : Frag) (E : XK) : TS :=
    tRet (tCB (cSortedT K) (tCons (dLc (iSeq K (tSl (oSl K) (tCB (cSortedT K) (tCons (dVar 4) (tNil))) (tNoPart) (dPart (dVar 2)))) (gName 8) (tYes) (tOp (oIx K) (dVar 8) (tC (.int 1))) [8]) (tNil)))
def t__law_choice_1 (K : Frag) (E : XK) : TS :=
    tSeq (dFor (iRng (tCons (tCB (cLen K) (tCons (dVar 1) (tNil))) (tNil))) (gName 5) (t__law_choice_b1 K E))
    (stop (t__law_choice_2 K E))
def t__law_choice (K : Frag) (E : XK) : TS :=
    tSeq (tAsg (dLst (tNil)) (gName 4))
    (stop (t__law_choice_1 K E))
end S
-- fn: _law_choice
-- law: k72
-- sortT: yes
-- tupK: yes
-- deps: Fck Column_shift Inu Lri Lr Lcc Lcg Lp Fstay Rds D0 D1
open PySem PySem.Spec PyProof.Rows L2 S in
local macro_rules | `(tactic| walk_at "sp") => `(tactic| dsimp only [dVar, S.nth, S.onSome, tCons, tNil, tC, dCall, List.set, tSeq, dIfS, dCmpT, tAsg, tRet, tOp, gName, dNot, dTest, dOr, dMeth, dMethD, oOwn, dTup, dProp, dStat, uOwn, tUn, uNeg, tDrop, dLst, oEq, isB])
namespace S
open PySem PySem.Spec PyProof.Rows L2
/-- the rows of the grid as lists of bits, on the heap -/
structure GrdH (K : Frag) (H : Hp) (q : Addr) (ls : List Addr) (g : Nat → Int → Bool) (w : Nat) (R : List Nat) : Prop where
  hq : H q = some (.lst (ls.map V.ref))
  hl : ls.length = w + 1
  hr : ∀ (s : Nat) (a : Addr), ls[s]? = some a → H a = some (.lst (R.map fun j : Nat => V.int (b2n (g s j))))
theorem GrdH.same {K : Frag} {H H' : Hp} {q : Addr} {ls : List Addr} {g : Nat → Int → Bool} {w : Nat} {R : List Nat} (h : GrdH K H q ls g w R) (e : Same H H') : GrdH K H' q ls g w R := ⟨e _ _ h.hq, h.hl, fun s a z => e _ _ (h.hr s a z)⟩
def sp__law_choice (K : Frag) : Sp := fun vs H Q _ => ∃ (q c : Addr) (k : Nat) (top : Bool) (ls : List Addr) (g : Nat → Int → Bool) (w : Nat) (n : Int) (fR : Int → Bool), vs = [.ref q, .ref c, .int (k : Int), .bl top] ∧ GrdH K H q ls g w (rowsN fR n.toNat) ∧ H c = some (.lst ((rowsN fR n.toNat).map fun j : Nat => V.int j)) ∧ 1 ≤ w ∧ w ≤ 10 ∧ n ≤ 10 ∧ k ≤ 1000 ∧
  ∀ r H', Same H H' → H r = none → H' r = some (.lst ((rowsL (frG n fR g w top k).1 n.toNat).map V.int)) → Q (.ref r) H'
/-- the number of the bits so far -/
def preV (g : Nat → Int → Bool) (i : Nat) (r : Int) : Int := twos ((List.range (i + 1)).map fun t => g (i + 1 - t) r)
theorem preV_0 {g : Nat → Int → Bool} {r : Int} : 0 - b2n (g 1 r) = preV g 0 r := by
  unfold preV
  show _ = twos [g 1 r]
  cases g 1 r <;> decide
theorem preV_s {g : Nat → Int → Bool} {i : Nat} {r : Int} : 2 * preV g i r + b2n (g (i + 2) r) = preV g (i + 1) r := by
  unfold preV
  rw [List.range_succ_eq_map (n := i + 1), List.map_cons, List.map_map]
  have : ((fun t => g (i + 1 + 1 - t) r) ∘ Nat.succ) = fun t => g (i + 1 - t) r := by
    funext t
    show g (i + 1 + 1 - (t + 1)) r = _
    rw [Nat.add_sub_add_right]
  rw [this, twos_cons _ (by rw [List.range_succ]; simp)]
  show _ = b2n (g (i + 2) r) + _
  omega
theorem preV_w {g : Nat → Int → Bool} {w : Nat} {r : Int} (h : 1 ≤ w) : preV g (w - 1) r = twos ((List.range w).map fun t => g (w - t) r) := by
  unfold preV
  rw [show w - 1 + 1 = w by omega]
theorem preV_bd {g : Nat → Int → Bool} {r : Int} : ∀ i : Nat, -(2 ^ i) ≤ preV g i r ∧ preV g i r < 2 ^ i
  | 0 => by rw [← preV_0]; cases g 1 r <;> decide
  | i + 1 => by
    rw [← preV_s]
    have := preV_bd (g := g) (r := r) i
    have h : b2n (g (i + 2) r) = 0 ∨ b2n (g (i + 2) r) = 1 := by cases g (i + 2) r <;> decide
    rw [Int.pow_succ]
    omega
theorem pair72 {α : Type} {P : α → V → Prop} {f : α → V} : ∀ {as : List α}, (∀ a ∈ as, P a (f a)) → Paired P as (as.map f)
  | [], _ => .nil
  | _ :: _, h => .cons (h _ List.mem_cons_self) (pair72 fun b hb => h b (List.mem_cons_of_mem _ hb))
theorem pair72_eq {α : Type} {f : α → V} : ∀ {as : List α} {ys : List V}, Paired (fun a y => y = f a) as ys → ys = as.map f
  | _, _, .nil => rfl
  | _, _, .cons h t => by rw [h, pair72_eq t]; rfl
theorem nn72 {H W : Hp} {q : Addr} (e : Same H W) (h : W q = none) : H q = none := by
  cases hq : H q with
  | none => rfl
  | some o => rw [e _ _ hq] at h; cases h
def inv_ch (K : Frag) (H : Hp) (q c kd : Addr) (k : Nat) (top : Bool) (g : Nat → Int → Bool) (w : Nat) (R : List Nat) (i : Nat) (σ : L2.St) (W : Hp) : Prop :=
  ∃ (bs : List Rw) (x5 x6 x7 : Option V), σ = [some (.ref q), some (.ref c), some (.int (k : Int)), some (.bl top), some (.ref kd), x5, x6, x7, none] ∧ Same H W ∧ W kd = some (.lst (bs.map (·.1))) ∧ (∀ b ∈ bs, b.2 ≠ [] ∧ ∃ t, b.1 = .ref t ∧ SqT K W t (b.2.map V.int)) ∧ bs.map (·.2) = (((R.take i).filter fun j : Nat => g 0 (j : Int)).map fun j : Nat => [keyG g w top j, (j : Int)]) ∧ bs.length ≤ i
theorem pure__law_choice {K : Frag} (vs : List V) (H : Hp) (Q : VK) (E : XK) (h : sp__law_choice K vs H Q E) : t__law_choice K E { nx := fun _ H' => Q .non H', rt := Q } (start ["_law_grid", "_law_chosen", "_law_k", "_law_top", "_law_keys", "_law_j", "_law_value", "_law_bits", "_law_key"] vs) H := by
  obtain ⟨q, c, k, top, ls, g, w, n, fR, rfl, hG, hc, w1, w10, n10, k1, good⟩ := h
  have lR := rowsN_le (f := fR) (n := n.toNat)
  have pU : ∀ R : List Nat, R = rowsN fR n.toNat → (R.filter fun j : Nat => g 0 (j : Int)) = rowsN (fun r => rAnd (fR r) (g 0 r)) n.toNat := fun R hR => by
    subst hR
    unfold rowsN
    rw [List.filter_filter]
    refine List.filter_congr fun j _ => ?_
    show (g 0 (j : Int) && fR (j : Int)) = rAnd (fR j) (g 0 j)
    cases fR (j : Int) <;> cases g 0 (j : Int) <;> rfl
  have chk := fun cs h1 h2 bs h3 h4 => chc (n := n) (fR := fR) (g := g) (w := w) (top := top) (k := (k : Int)) (by omega) (cs := cs) h1 h2 (bs := bs) h3 h4
  rw [← pU _ rfl] at chk
  generalize rowsN fR n.toNat = R at *
  walk_at "gx"
  refine ⟨fun kd nkd => ?_⟩
  have e0 := same_new (o := .lst ([] : List V)) nkd
  have hkd : upd H kd (.lst ([] : List V)) kd = some (.lst []) := upd_same
  generalize upd H kd (.lst ([] : List V)) = H1 at *
  have hc1 := e0 _ _ hc
  refine ⟨?_⟩
  have lmR : (R.map fun j : Nat => V.int j).length = R.length := List.length_map ..
  walk_at "gx"
  rw [lmR]
  refine for_rng (inv_ch K H q c kd k top g w R)
    ⟨[], none, none, none, rfl, e0, hkd, (fun b (z : b ∈ ([] : List Rw)) => nomatch z), (by rw [List.take_zero]; rfl), Nat.le_refl _⟩ ?_ ?_
  · rintro i σ W hi ⟨bs, x5, x6, x7, rfl, eW, hkW, hbs, hks, lbs⟩
    obtain ⟨r, hr⟩ : ∃ r, R[i]? = some r := ⟨_, List.getElem?_eq_getElem (by omega)⟩
    have GW := hG.same eW
    have hcW := eW _ _ hc
    obtain ⟨a0, ha0⟩ : ∃ a, ls[0]? = some a := ⟨_, List.getElem?_eq_getElem (by rw [GW.hl]; omega)⟩
    obtain ⟨a1, ha1⟩ : ∃ a, ls[1]? = some a := ⟨_, List.getElem?_eq_getElem (by rw [GW.hl]; omega)⟩
    have at0 : L2.atI (ls.map V.ref) (0 : Int) = some (.ref a0) := L2.atI_nat (j := 0) (by rw [List.getElem?_map, ha0]; rfl)
    have at1 : L2.atI (ls.map V.ref) (1 : Int) = some (.ref a1) := L2.atI_nat (j := 1) (by rw [List.getElem?_map, ha1]; rfl)
    have hq := GW.hq
    have h0 := GW.hr 0 a0 ha0
    have h1 := GW.hr 1 a1 ha1
    have atb : ∀ s, L2.atI (R.map fun j : Nat => V.int (b2n (g s j))) ((i : Nat) : Int) = some (.int (b2n (g s r))) := fun s => L2.atI_nat (by rw [List.getElem?_map, hr]; rfl)
    have atb0 := atb 0
    have atb1 := atb 1
    have atc : L2.atI (R.map fun j : Nat => V.int j) ((i : Nat) : Int) = some (.int (r : Int)) := L2.atI_nat (by rw [List.getElem?_map, hr]; rfl)
    have tk : (R.take (i + 1)).filter (fun j : Nat => g 0 (j : Int)) = (R.take i).filter (fun j : Nat => g 0 (j : Int)) ++ (if g 0 (r : Int) = true then [r] else []) := tkg_filter hr
    walk_at "gx"
    walk_at "sp"
    cases hg : g 0 (r : Int) with
    | false =>
      rw [hg, if_neg Bool.false_ne_true, List.append_nil] at tk
      show bIf (decide ((0 : Int) = 1)) _ _
      refine iff' (by decide) ?_
      exact ⟨bs, _, _, _, rfl, eW, hkW, hbs, by rw [tk]; exact hks, by omega⟩
    | true =>
      rw [hg, if_pos rfl] at tk
      show bIf (decide ((1 : Int) = 1)) _ _
      refine ift (by decide) ?_
      walk_at "gx"
      walk_at "sp"
      dsimp only [oSub, oI0, int2]
      rw [preV_0]
      have lcut : ∀ s : Nat, (ls.drop 2)[s]? = ls[s + 2]? := fun s => by rw [List.getElem?_drop, Nat.add_comm]
      walk_at "gx"
      refine Cut.l (SqL.of hq) fun q2 nq2 => ?_
      have ecut : cutV (ls.map V.ref) (some 2) none = (ls.drop 2).map V.ref := by
        rw [cut_fromV (by decide), List.map_drop]; rfl
      rw [ecut]
      have e2 := same_new (o := .lst ((ls.drop 2).map V.ref)) nq2
      have hq2 : upd W q2 (.lst ((ls.drop 2).map V.ref)) q2 = some (.lst ((ls.drop 2).map V.ref)) := upd_same
      generalize upd W q2 (.lst ((ls.drop 2).map V.ref)) = W2 at *
      have l2 : ((ls.drop 2).map V.ref).length = w - 1 := by rw [List.length_map, List.length_drop, GW.hl]; omega
      refine for_seq0 (H0 := W2) (fun m σ W3 => W3 = W2 ∧ ∃ x7 : Option V, σ = [some (.ref q), some (.ref c), some (.int (k : Int)), some (.bl top), some (.ref kd), some (.int (i : Int)), some (.int (preV g m r)), x7, none]) (.inl (SqL.of hq2)) (Same.refl _) ⟨rfl, _, rfl⟩ (fun _ _ _ z => by rw [z.1]; exact Same.refl _) ?_ ?_
      · rintro m x σ W3 hm ⟨rfl, x7, rfl⟩
        have hml : m < w - 1 := by rw [← l2]; exact (List.getElem?_eq_some_iff.mp hm).1
        obtain ⟨am, ham⟩ : ∃ a, ls[m + 2]? = some a := ⟨_, List.getElem?_eq_getElem (by rw [GW.hl]; omega)⟩
        rw [List.getElem?_map, lcut, ham] at hm
        obtain rfl : x = .ref am := (Option.some.inj hm).symm
        have hm2 := e2 _ _ (GW.hr (m + 2) am ham)
        have atm := atb (m + 2)
        have bd := preV_bd (g := g) (r := r) m
        have b10 : (2 : Int) ^ m ≤ 2 ^ 10 := by exact_mod_cast Nat.pow_le_pow_right (by decide) (by omega)
        have cm : CMul 2 (preV g m r) := by unfold CMul; omega
        walk_at "gx"
        walk_at "sp"
        show W3 = W3 ∧ ∃ x7, [some (V.ref q), some (.ref c), some (.int (k : Int)), some (.bl top), some (.ref kd), some (.int (i : Int)), some (.int (2 * preV g m r + b2n (g (m + 2) r))), some (.ref am), none] = _
        rw [preV_s]
        exact ⟨rfl, _, rfl⟩
      · rintro σ W3 ⟨rfl, x7, rfl⟩
        rw [l2, preV_w w1]
        have ek : (if top = true then 0 - twos ((List.range w).map fun t => g (w - t) (r : Int)) else twos ((List.range w).map fun t => g (w - t) (r : Int))) = keyG g w top r := rfl
        have fin : ∀ (v : Int) (D : L2.Ends), v = keyG g w top r → (∀ σ W, inv_ch K H q c kd k top g w R (i + 1) σ W → D.nx σ W) → tDrop (dML K mApp (dVar 4) (tCons (dTupK (tCons (dVar 6) (tCons (tOp (oIx K) (dVar 1) (dVar 5)) tNil))) tNil)) D [some (.ref q), some (.ref c), some (.int (k : Int)), some (.bl top), some (.ref kd), some (.int (i : Int)), some (.int v), x7, none] W3 := fun v D hv hD => by
          have hc3 := e2 _ _ hcW
          have hk3 := e2 _ _ hkW
          unfold tDrop
          walk_at "gx"
          refine ⟨fun t nt => ?_⟩
          have e4 := same_new (o := .tup [V.int v, .int (r : Int)]) nt
          have ht : upd W3 t (.tup [V.int v, .int (r : Int)]) t = some (.tup [.int v, .int (r : Int)]) := upd_same
          generalize upd W3 t (.tup [V.int v, .int (r : Int)]) = W4 at *
          have hk4 := e4 _ _ hk3
          walk_at "gx"
          have sx : SameX kd W4 (upd W4 kd (.lst (bs.map (·.1) ++ [V.ref t]))) := SameX.upd
          have nkt : t ≠ kd := fun y => by rw [y, hk3] at nt; cases nt
          refine hD _ _ ⟨bs ++ [(.ref t, [v, (r : Int)])], _, _, _, rfl, fun b o hb => ?_, by rw [List.map_append]; exact upd_same, fun b hb => ?_, ?_, by rw [List.length_append, List.length_singleton]; omega⟩
          · rw [upd_ne (ne_of_none hb nkd)]
            exact e4 _ _ (e2 _ _ (eW _ _ hb))
          · rcases List.mem_append.mp hb with hb | hb
            · obtain ⟨h1, t', h2, h3⟩ := hbs b hb
              exact ⟨h1, t', h2, sx.tup (Same.tup (e2.trans e4) h3) hk4⟩
            · obtain rfl := List.mem_singleton.mp hb
              exact ⟨by simp, t, rfl, SqT.of (by rw [upd_ne nkt]; exact ht)⟩
          · rw [List.map_append, hks, tk, List.map_append, hv]; rfl
        cases top with
        | true =>
          walk_at "gx"
          walk_at "sp"
          dsimp only [oI0, int2]
          exact fin _ { nx := inv_ch K H q c kd k _ g w R (i + 1), rt := Q } ek (fun _ _ z => z)
        | false =>
          walk_at "gx"
          exact fin _ { nx := inv_ch K H q c kd k _ g w R (i + 1), rt := Q } ek (fun _ _ z => z)
  · rintro σ W ⟨bs, x5, x6, x7, rfl, eW, hkW, hbs, hks, lbs⟩
    rw [show ((R.length : Int)).toNat = R.length by omega] at hks lbs
    rw [List.take_length] at hks
    refine ⟨?_⟩
    walk_at "gx"
    refine ⟨.inr ⟨bs, SqL.of hkW, hbs, fun cs q3 p3 s3 nq3 => ?_⟩⟩
    have e3 := same_new (o := .lst (cs.map (·.1))) nq3
    have hq3 : upd W q3 (.lst (cs.map (·.1))) q3 = some (.lst (cs.map (·.1))) := upd_same
    generalize upd W q3 (.lst (cs.map (·.1))) = W3 at *
    walk_at "gx"
    refine Cut.l (SqL.of hq3) fun q4 nq4 => ?_
    rw [cut_take]
    have e4 := same_new (o := .lst ((cs.map (·.1)).take k)) nq4
    have hq4 : upd W3 q4 (.lst ((cs.map (·.1)).take k)) q4 = some (.lst ((cs.map (·.1)).take k)) := upd_same
    generalize upd W3 q4 (.lst ((cs.map (·.1)).take k)) = W4 at *
    have e34 := e3.trans e4
    rw [← List.map_take] at hq4
    have kys : ∀ b ∈ cs, ∃ a r : Int, b.2 = [a, r] := fun b hb => by
      have : b.2 ∈ bs.map (·.2) := List.mem_map.mpr ⟨b, p3.mem_iff.mp hb, rfl⟩
      rw [hks] at this
      obtain ⟨j, _, hj⟩ := List.mem_map.mp this
      exact ⟨_, _, hj.symm⟩
    walk_at "gx"
    refine lc_gen (cs.take k) (fun _ => true) (fun b v => v = b.1 ∧ ∃ (t : Addr) (a r : Int), b.1 = .ref t ∧ b.2 = [a, r] ∧ SqT K W4 t [.int a, .int r]) (fun _ b y _ => y = .int (b.2.getD 1 0)) (.inl (SqL.of hq4)) ?_ (by rw [sizeLine_eq]; have := p3.length_eq; rw [List.length_take]; omega) (fun _ _ _ _ _ _ _ h _ => h) ?_ ?_
    · refine pair72 fun b hb => ⟨rfl, ?_⟩
      have hb := List.mem_of_mem_take hb
      obtain ⟨a, r, e⟩ := kys b hb
      obtain ⟨_, t, h2, h3⟩ := hbs b (p3.mem_iff.mp hb)
      rw [e] at h3
      exact ⟨t, a, r, h2, e, Same.tup e34 h3⟩
    · rintro D l b x X A B _ _ _ ⟨rfl, t, a, r, h1, h2, h3⟩ eX hA _
      have h3 := Same.tup eX h3
      rw [h1]
      refine ⟨rfl, ?_⟩
      unfold tYes
      walk_at "gx"
      refine hA _ _ (Same.refl _) rfl ?_
      rw [h2]; rfl
    · intro D ys X nD hD hP eX
      have ey : ys = (((cs.map (·.2)).take k).map fun l => l.getD 1 0).map V.int := by
        rw [List.filter_eq_self.mpr (fun _ _ => rfl)] at hP
        rw [← List.map_take, List.map_map, List.map_map]
        exact pair72_eq hP
      rw [ey] at hD
      walk_at "gx"
      refine ⟨.inl ⟨_, SqL.of hD, fun ns q5 p5 s5 nq5 => ?_⟩⟩
      have e5 := same_new (o := .lst (ns.map V.int)) nq5
      have eH := ((eW.trans e34).trans eX)
      refine good _ _ (eH.trans e5) (nn72 eH nq5) ?_
      rw [chk (cs.map (·.2)) (by rw [← hks]; exact p3.map _) (by rw [List.pairwise_map]; exact s3) ns (by rw [Int.toNat_natCast]; exact p5) s5]
      exact upd_same
end S
namespace S
open PySem PySem.Spec PyProof.Rows L2
def t__law_settled_b2 (K : Frag) (E : XK) : TS :=
    tDrop (dML K mApp (dVar 8) (tCons (dLc (iRng (tCons (dVar 5) (tNil))) (gName 11) (tYes) (tOp oAnd (tOp oShr (dVar 7) (tOp (oAdd K) (tOp oMulA (dVar 9) (dVar 5)) (dVar 11))) (tC (.int 1))) [11]) (tNil)))
def t__law_settled_b1_4 (K : Frag) (E : XK) : TS :=
    dIfS (dCmpT (oNe K) (dVar 10) (dVar 6)) (tRet (tC (.bl false))) (tNext)
def t__law_settled_b1_3 (K : Frag) (E : XK) : TS :=
    tSeq (dIfS (dCmpT oIsN (dVar 6) (tC .non)) (tAsg (dVar 10) (gName 6)) (tNext))
    (stop (t__law_settled_b1_4 K E))
def t__law_settled_b1_2 (K : Frag) (E : XK) : TS :=
    tSeq (tAsg (dCall (sp__law_choice K) (EW E) (tCons (dVar 8) (tCons (dVar 2) (tCons (dVar 3) (tCons (dVar 4) (tNil)))))) (gName 10))
    (stop (t__law_settled_b1_3 K E))
def t__law_settled_b1_1 (K : Frag) (E : XK) : TS :=
    tSeq (dFor (iRng (tCons (tOp oSub (tCB (cLen K) (tCons (dVar 0) (tNil))) (dVar 1)) (tNil))) (gName 9) (t__law_settled_b2 K E))
    (stop (t__law_settled_b1_2 K E))
def t__law_settled_b1 (K : Frag) (E : XK) : TS :=
    tSeq (tAsg (tCB (cList K) (tCons (tSl (oSl K) (dVar 0) (tNoPart) (dPart (dVar 1))) (tNil))) (gName 8))
    (stop (t__law_settled_b1_1 K E))
def t__law_settled_3 (K : Frag) (E : XK) : TS :=
    tRet (tC (.bl true))
def t__law_settled_2 (K : Frag) (E : XK) : TS :=
    tSeq (dFor (iRng (tCons (tOp oShl (tC (.int 1)) (tOp oMulA (dVar 5) (tOp oSub (tCB (cLen K) (tCons (dVar 0) (tNil))) (dVar 1)))) (tNil))) (gName 7) (t__law_settled_b1 K E))
    (stop (t__law_settled_3 K E))
def t__law_settled_1 (K : Frag) (E : XK) : TS :=
    tSeq (tAsg (tC .non) (gName 6))
    (stop (t__law_settled_2 K E))
def t__law_settled (K : Frag) (E : XK) : TS :=
    tSeq (tAsg (tCB (cLen K) (tCons (dVar 2) (tNil))) (gName 5))
    (stop (t__law_settled_1 K E))
end S
-- fn: _law_settled
-- law: k72
-- deps: _law_choice M46
open PySem PySem.Spec PyProof.Rows L2 S in
local macro_rules | `(tactic| walk_at "sp") => `(tactic| dsimp only [dVar, S.nth, S.onSome, tCons, tNil, tC, dCall, List.set, tSeq, dIfS, dCmpT, tAsg, tRet, tOp, gName, dNot, dTest, dOr, dMeth, dMethD, oOwn, dTup, dProp, dStat, uOwn, tUn, uNeg, tDrop, dLst, oEq, isB])
namespace S
open PySem PySem.Spec PyProof.Rows L2
def sp__law_settled (K : Frag) : Sp := fun vs H Q _ => ∃ (q c : Addr) (f k : Nat) (top : Bool) (ls : List Addr) (g : Nat → Int → Bool) (w : Nat) (n : Int) (fR : Int → Bool), vs = [.ref q, .int (f : Int), .ref c, .int (k : Int), .bl top] ∧ GrdH K H q ls g w (rowsN fR n.toNat) ∧ H c = some (.lst ((rowsN fR n.toNat).map fun j : Nat => V.int j)) ∧ 1 ≤ w ∧ w ≤ 3 ∧ n ≤ 3 ∧ k ≤ 1000 ∧ f ≤ w + 1 ∧ (∀ r, fR r = true → 0 ≤ r ∧ r < n) ∧
  ∀ H', Same H H' → Q (.bl (decide ((frG n fR g w top k).2 ≤ f))) H'
theorem gN_row {g : Nat → Int → Bool} {f s N : Nat} {R : List Nat} (nd : R.Nodup) {ys : List V} (ly : ys.length = R.length) (h : ∀ j y, ys[j]? = some y → y = V.int (b2n (N.testBit (s * R.length + j)))) : ys = R.map fun j : Nat => V.int (b2n (gN g f R N (f + s) j)) := by
  refine List.ext_getElem? fun i => ?_
  rw [List.getElem?_map]
  by_cases hi : i < R.length
  · obtain ⟨y, hy⟩ : ∃ y, ys[i]? = some y := ⟨_, List.getElem?_eq_getElem (by omega)⟩
    rw [hy, h i y hy, List.getElem?_eq_getElem hi]
    show _ = some (V.int (b2n (gN g f R N (f + s) ((R[i] : Nat) : Int))))
    unfold gN
    rw [if_neg (by omega), Int.toNat_natCast, nd.idxOf_getElem, show f + s - f = s by omega]
  · rw [List.getElem?_eq_none (by omega), List.getElem?_eq_none (by omega)]; rfl
def inv_st (H : Hp) (q c : Addr) (f k : Nat) (top : Bool) (g : Nat → Int → Bool) (w : Nat) (n : Int) (fR : Int → Bool) (R : List Nat) (N : Nat) (σ : L2.St) (W : Hp) : Prop :=
  ∃ (x6 : V) (x7 x8 x9 x10 : Option V), σ = [some (.ref q), some (.int (f : Int)), some (.ref c), some (.int (k : Int)), some (.bl top), some (.int (R.length : Int)), some x6, x7, x8, x9, x10, none] ∧ Same H W ∧ ((N = 0 ∧ x6 = .non) ∨ ∃ fr, x6 = .ref fr ∧ W fr = some (.lst ((rowsL (frG n fR (gN g f R 0) w top k).1 n.toNat).map V.int))) ∧ ∀ j, j < N → rowsN (frG n fR (gN g f R j) w top k).1 n.toNat = rowsN (frG n fR (gN g f R 0) w top k).1 n.toNat
theorem pure__law_settled {K : Frag} (vs : List V) (H : Hp) (Q : VK) (E : XK) (h : sp__law_settled K vs H Q E) : t__law_settled K E { nx := fun _ H' => Q .non H', rt := Q } (start ["_law_grid", "_law_fixed", "_law_chosen", "_law_k", "_law_top", "_law_many", "_law_first", "_law_number", "_law_tried", "_law_s", "_law_picked", "_law_j"] vs) H := by
  obtain ⟨q, c, f, k, top, ls, g, w, n, fR, rfl, hG, hc, w1, w3, n3, k1, hf, hR, good⟩ := h
  have si := settled_iff (n := n) (fR := fR) (g := g) (w := w) (top := top) (k := (k : Int)) (f := f) (by omega) hf hR
  have nd := rowsN_nd (f := fR) (n := n.toNat)
  have lR := rowsN_le (f := fR) (n := n.toNat)
  have lmR : ((rowsN fR n.toNat).map fun j : Nat => V.int j).length = (rowsN fR n.toNat).length := List.length_map ..
  have lml : (ls.map V.ref).length = w + 1 := by rw [List.length_map, hG.hl]
  have hq := hG.hq
  generalize hRR : rowsN fR n.toNat = R at *
  walk_at "gx"
  rw [lmR, lml]
  have em : ((R.length : Int) * ((fun i j : Int => i - j) ((w + 1 : Nat) : Int) (f : Int))) = ((R.length * (w + 1 - f) : Nat) : Int) := by
    rw [Int.natCast_mul]
    show (R.length : Int) * (((w + 1 : Nat) : Int) - (f : Int)) = _
    congr 1
    omega
  have hm12 : R.length * (w + 1 - f) ≤ 12 := by
    have := Nat.mul_le_mul (show R.length ≤ 3 by omega) (show w + 1 - f ≤ 4 by omega)
    omega
  rw [em]
  generalize hM : R.length * (w + 1 - f) = M at *
  have eP : (1 : Int) * 2 ^ ((M : Int)).toNat = ((2 ^ M : Nat) : Int) := by rw [Int.toNat_natCast, Int.one_mul, Int.natCast_pow]; rfl
  have hP : 2 ^ M ≤ 4096 := Nat.pow_le_pow_right (by decide) hm12
  have cp : CPow 1 (M : Int) := by unfold CPow; omega
  walk_at "sp"
  refine Need.mk cp ?_
  dsimp only
  rw [eP]
  generalize hPP : 2 ^ M = P at *
  refine Need.mk (by omega) ?_
  refine for_rng (inv_st H q c f k top g w n fR R)
    ⟨.non, none, none, none, none, rfl, Same.refl _, .inl ⟨rfl, rfl⟩, fun j hj => absurd hj (Nat.not_lt_zero _)⟩ ?_ ?_
  · rintro N σ W hN ⟨x6, x7, x8, x9, x10, rfl, eW, hx6, hall⟩
    have GW := hG.same eW
    have hqW := GW.hq
    have hcW := eW _ _ hc
    show t__law_settled_b1 K E _ [some (.ref q), some (.int (f : Int)), some (.ref c), some (.int (k : Int)), some (.bl top), some (.int (R.length : Int)), some x6, some (.int (N : Int)), x8, x9, x10, none] W
    unfold t__law_settled_b1
    refine Cut.l (SqL.of hqW) fun q2 nq2 => ?_
    rw [cut_take]
    have e2 := same_new (o := .lst ((ls.map V.ref).take f)) nq2
    have hq2 : upd W q2 (.lst ((ls.map V.ref).take f)) q2 = some (.lst ((ls.map V.ref).take f)) := upd_same
    generalize upd W q2 (.lst ((ls.map V.ref).take f)) = W2 at *
    walk_at "sp"
    walk_at "gx"
    refine ⟨fun q3 nq3 => ?_⟩
    have e3 := same_new (o := .lst ((ls.map V.ref).take f)) nq3
    have hq3 : upd W2 q3 (.lst ((ls.map V.ref).take f)) q3 = some (.lst ((ls.map V.ref).take f)) := upd_same
    generalize upd W2 q3 (.lst ((ls.map V.ref).take f)) = W3 at *
    have nq3W := nn72 e2 nq3
    have hq3q := (e2.trans e3) _ _ hqW
    refine ⟨?_⟩
    have ew : ((fun i j : Int => i - j) (((ls.map V.ref).length : Nat) : Int) (f : Int)).toNat = ((w + 1 - f : Nat) : Int).toNat := by
      rw [lml]; show (((w + 1 : Nat) : Int) - (f : Int)).toNat = _
      omega
    have bw : -(2 ^ 62) ≤ ((fun i j : Int => i - j) (((ls.map V.ref).length : Nat) : Int) (f : Int)) ∧ ((fun i j : Int => i - j) (((ls.map V.ref).length : Nat) : Int) (f : Int)) < 2 ^ 62 := by
      rw [lml]; show -(2 ^ 62) ≤ (((w + 1 : Nat) : Int) - (f : Int)) ∧ (((w + 1 : Nat) : Int) - (f : Int)) < 2 ^ 62
      omega
    walk_at "gx"
    rw [ew]
    refine for_rng (fun s σ V3 => ∃ (ns : List Addr) (x9 : Option V), σ = [some (.ref q), some (.int (f : Int)), some (.ref c), some (.int (k : Int)), some (.bl top), some (.int (R.length : Int)), some x6, some (.int (N : Int)), some (.ref q3), x9, x10, none] ∧ Same W V3 ∧ V3 q3 = some (.lst ((ls.take f ++ ns).map V.ref)) ∧ ns.length = s ∧ ∀ t a, ns[t]? = some a → a ≠ q3 ∧ V3 a = some (.lst (R.map fun j : Nat => V.int (b2n (gN g f R N (f + t) j)))))
      ⟨[], x9, rfl, e2.trans e3, by rw [List.append_nil, List.map_take]; exact hq3, rfl, fun t a h => by simp at h⟩ ?_ ?_
    · rintro s σ V3 hs ⟨ns, x9, rfl, eV, hV3, lns, hns⟩
      unfold t__law_settled_b2
      walk_at "gx"
      refine lc_rng (m := R.length) (fun D j y H => y = .int (b2n (N.testBit (s * R.length + j)))) (by rw [sizeLine_eq]; omega) (fun _ _ _ _ _ _ _ h _ => h) ?_ ?_
      · intro D l j X A nD hD hj eX hA
        refine ⟨rfl, ?_⟩
        have cm : CMul (s : Int) (R.length : Int) := by unfold CMul; omega
        have ej : (s : Int) * (R.length : Int) + (j : Int) = ((s * R.length + j : Nat) : Int) := by rw [Int.natCast_add, Int.natCast_mul]
        have j0 : (0 : Int) ≤ (s : Int) * (R.length : Int) + (j : Int) := by rw [ej]; omega
        have eb : V.int (Builtin.bitAnd ((N : Int) / 2 ^ ((s : Int) * (R.length : Int) + (j : Int)).toNat) 1) = .int (b2n (N.testBit (s * R.length + j))) := by
          rw [bit_val, ej]
          unfold bitN
          rw [Int.toNat_natCast]
          cases N.testBit (s * R.length + j) <;> rfl
        walk_at "gx"
        exact hA _ _ (Same.refl _) eb
      · intro D ys X nD hD ly hys eX
        have ey := gN_row (g := g) (f := f) (s := s) (N := N) nd ly hys
        have hX3 := eX _ _ hV3
        have nDq : D ≠ q3 := fun y => by rw [y, hV3] at nD; cases nD
        walk_at "gx"
        refine ⟨by rw [sizeLine_eq, List.length_map, List.length_append, List.length_take, hG.hl]; omega, ns ++ [D], _, rfl, fun b o hb => ?_, ?_, by rw [List.length_append, lns]; rfl, fun t a ht => ?_⟩
        · rw [upd_ne (ne_of_none hb nq3W)]
          exact eX _ _ (eV _ _ hb)
        · rw [← List.append_assoc, List.map_append (l₁ := ls.take f ++ ns)]; exact upd_same
        · by_cases hlt : t < ns.length
          · rw [List.getElem?_append_left hlt] at ht
            obtain ⟨h1, h2⟩ := hns t a ht
            exact ⟨h1, by rw [upd_ne h1]; exact eX _ _ h2⟩
          · have hl := (List.getElem?_eq_some_iff.mp ht).1
            rw [List.length_append, List.length_singleton] at hl
            have et : t = s := by omega
            subst et
            rw [← lns, List.getElem?_append_right (Nat.le_refl _), Nat.sub_self] at ht
            obtain rfl : D = a := Option.some.inj ht
            exact ⟨nDq, by rw [upd_ne nDq, hD, ey]⟩
    · rintro σ V3 ⟨ns, x9, rfl, eV, hV3, lns, hns⟩
      have lns : ns.length = w + 1 - f := by rw [lns]; exact Int.toNat_natCast _
      have ltk : (ls.take f).length = f := by rw [List.length_take, hG.hl]; omega
      have G3 : GrdH K V3 q3 (ls.take f ++ ns) (gN g f R N) w R := ⟨hV3, by rw [List.length_append, ltk]; omega, fun s a hs => by
        by_cases hlt : s < f
        · rw [List.getElem?_append_left (by omega), List.getElem?_take, if_pos hlt] at hs
          have := eV _ _ (GW.hr s a hs)
          rw [this]
          congr 2
          refine List.map_congr_left fun j _ => ?_
          unfold gN
          rw [if_pos hlt]
        · rw [List.getElem?_append_right (by omega), ltk] at hs
          have := (hns _ a hs).2
          rw [show f + (s - f) = s by omega] at this
          exact this⟩
      refine ⟨?_⟩
      walk_at "gx"
      refine ⟨q3, c, k, top, _, gN g f R N, w, n, fR, rfl, by rw [hRR]; exact G3, by rw [hRR]; exact eV _ _ hcW, w1, by omega, by omega, k1, fun r V4 e4 nr hr => ?_⟩
      have eV4 := eV.trans e4
      have f4 : ∀ fr, V4 fr = some (.lst ((rowsL (frG n fR (gN g f R 0) w top k).1 n.toNat).map V.int)) → t__law_settled_b1_4 K E ⟨inv_st H q c f k top g w n fR R (N + 1), Q, stop (t__law_settled_3 K E) { nx := fun _ H' => Q .non H', rt := Q }, inv_st H q c f k top g w n fR R (N + 1)⟩ [some (.ref q), some (.int (f : Int)), some (.ref c), some (.int (k : Int)), some (.bl top), some (.int (R.length : Int)), some (.ref fr), some (.int (N : Int)), some (.ref q3), x9, some (.ref r), none] V4 := fun fr hfr => by
        walk_at "gx"
        refine eqd_ll (SqL.of hr) (SqL.of hfr) ?_
        refine ifn (fun hne => ?_) fun he => ?_
        · walk_at "gx"
          have := good V4 (eW.trans eV4)
          have no : ¬ (frG n fR g w top k).2 ≤ f := fun hle => hne (by
            have := si.mpr hle N (by omega)
            show (rowsN _ _).map _ = (rowsN _ _).map _
            rw [this])
          rw [decide_eq_false no] at this
          exact this
        · exact ⟨_, _, _, _, _, rfl, eW.trans eV4, .inr ⟨fr, rfl, hfr⟩, fun j hj => by
            by_cases hjN : j < N
            · exact hall j hjN
            · obtain rfl : j = N := by omega
              exact List.map_inj_right (fun _ _ h => Int.ofNat.inj h) |>.mp he⟩
      refine ⟨?_⟩
      rcases hx6 with ⟨rfl, rfl⟩ | ⟨fr, rfl, hfr⟩
      · walk_at "gx"
        refine ⟨rfl, ?_⟩
        walk_at "sp"
        exact ⟨f4 r hr⟩
      · walk_at "gx"
        refine ⟨rfl, ?_⟩
        walk_at "sp"
        exact ⟨f4 fr (eV4 _ _ hfr)⟩
  · rintro σ W ⟨x6, x7, x8, x9, x10, rfl, eW, hx6, hall⟩
    refine ⟨?_⟩
    walk_at "gx"
    have := good W eW
    rw [decide_eq_true (si.mp fun N hN => hall N (by omega))] at this
    exact this
end S
namespace S
open PySem PySem.Spec PyProof.Rows L2
def t__law_least_b1_1 (K : Frag) (E : XK) : TS :=
    dIfS (dOr (dCmpT (oEq K) (dVar 4) (tOp (oAdd K) (dVar 6) (tC (.int 1)))) (dCmpT (oEq K) (dVar 5) (tC (.int 0)))) (dIfS (dTest K (dCall (sp__law_settled K) (EW E) (tCons (dVar 0) (tCons (dVar 6) (tCons (dVar 1) (tCons (dVar 2) (tCons (dVar 3) (tNil)))))))) (tAsg (dVar 6) (gName 4)) (tNext)) (tNext)
def t__law_least_b1 (K : Frag) (E : XK) : TS :=
    tSeq (tAsg (tOp oSub (tCB (cLen K) (tCons (dVar 0) (tNil))) (dVar 5)) (gName 6))
    (stop (t__law_least_b1_1 K E))
def t__law_least_2 (K : Frag) (E : XK) : TS :=
    tRet (dVar 4)
def t__law_least_1 (K : Frag) (E : XK) : TS :=
    tSeq (dFor (iRng (tCons (tOp (oAdd K) (tCB (cLen K) (tCons (dVar 0) (tNil))) (tC (.int 1))) (tNil))) (gName 5) (t__law_least_b1 K E))
    (stop (t__law_least_2 K E))
def t__law_least (K : Frag) (E : XK) : TS :=
    tSeq (tAsg (tCB (cLen K) (tCons (dVar 0) (tNil))) (gName 4))
    (stop (t__law_least_1 K E))
end S
-- fn: _law_least
-- law: k72
-- deps: _law_settled_k72
open PySem PySem.Spec PyProof.Rows L2 S in
local macro_rules | `(tactic| walk_at "sp") => `(tactic| dsimp only [dVar, S.nth, S.onSome, tCons, tNil, tC, dCall, List.set, tSeq, dIfS, dCmpT, tAsg, tRet, tOp, gName, dNot, dTest, dOr, dMeth, dMethD, oOwn, dTup, dProp, dStat, uOwn, tUn, uNeg, tDrop, dLst, oEq, isB])
namespace S
open PySem PySem.Spec PyProof.Rows L2
def sp__law_least (K : Frag) : Sp := fun vs H Q _ => ∃ (q c : Addr) (k : Nat) (top : Bool) (ls : List Addr) (g : Nat → Int → Bool) (w : Nat) (n : Int) (fR : Int → Bool), vs = [.ref q, .ref c, .int (k : Int), .bl top] ∧ GrdH K H q ls g w (rowsN fR n.toNat) ∧ H c = some (.lst ((rowsN fR n.toNat).map fun j : Nat => V.int j)) ∧ 1 ≤ w ∧ w ≤ 3 ∧ n ≤ 3 ∧ k ≤ 1000 ∧ (∀ r, fR r = true → 0 ≤ r ∧ r < n) ∧
  ∀ H', Same H H' → Q (.int ((frG n fR g w top k).2 : Int)) H'
theorem pure__law_least {K : Frag} (vs : List V) (H : Hp) (Q : VK) (E : XK) (h : sp__law_least K vs H Q E) : t__law_least K E { nx := fun _ H' => Q .non H', rt := Q } (start ["_law_grid", "_law_chosen", "_law_k", "_law_top", "_law_least_here", "_law_j", "_law_fixed"] vs) H := by
  obtain ⟨q, c, k, top, ls, g, w, n, fR, rfl, hG, hc, w1, w3, n3, k1, hR, good⟩ := h
  have lml : (ls.map V.ref).length = w + 1 := by rw [List.length_map, hG.hl]
  have hq := hG.hq
  have lem := frG_le (n := n) (fR := fR) (g := g) (w := w) (top := top) (k := (k : Int)) (by omega)
  generalize hm : (frG n fR g w top k).2 = m at *
  walk_at "gx"
  rw [lml]
  rw [show (((w + 1 : Nat) : Int) + 1).toNat = ((w + 2 : Nat) : Int).toNat by omega]
  refine for_rng (fun j σ W => ∃ (x5 x6 : Option V), σ = [some (.ref q), some (.ref c), some (.int (k : Int)), some (.bl top), some (.int ((if j = 0 then w + 1 else max m (w + 2 - j) : Nat) : Int)), x5, x6] ∧ Same H W)
    ⟨none, none, rfl, Same.refl _⟩ ?_ ?_
  · rintro j σ W hj ⟨x5, x6, rfl, eW⟩
    have GW := hG.same eW
    have hqW := GW.hq
    have hcW := eW _ _ hc
    have hj : j < w + 2 := by omega
    have ef : (fun i j : Int => i - j) (((ls.map V.ref).length : Nat) : Int) (j : Int) = ((w + 1 - j : Nat) : Int) := by
      rw [lml]; show ((w + 1 : Nat) : Int) - (j : Int) = _
      omega
    have next : ∀ L2' V2, L2' = max m (w + 2 - (j + 1)) → Same H V2 → ∃ (x5 x6 : Option V), [some (V.ref q), some (.ref c), some (.int (k : Int)), some (.bl top), some (.int (L2' : Nat)), some (.int (j : Int)), some (.int ((w + 1 - j : Nat) : Int))] = [some (.ref q), some (.ref c), some (.int (k : Int)), some (.bl top), some (.int ((if j + 1 = 0 then w + 1 else max m (w + 2 - (j + 1)) : Nat) : Int)), x5, x6] ∧ Same H V2 := fun L2' V2 h1 h2 => by
      rw [if_neg (by omega), ← h1]
      exact ⟨_, _, rfl, h2⟩
    generalize hL : (if j = 0 then w + 1 else max m (w + 2 - j)) = L at *
    have hL1 : (j = 0 → L = w + 1) ∧ (j ≠ 0 → L = max m (w + 2 - j)) := by
      rw [← hL]
      exact ⟨fun h => if_pos h, fun h => if_neg h⟩
    walk_at "gx"
    rw [ef]
    unfold t__law_least_b1_1
    walk_at "sp"
    generalize hF : w + 1 - j = F at *
    have st : ∀ (Q2 : VK) (E2 : XK), (∀ V2, Same W V2 → Q2 (.bl (decide (m ≤ F))) V2) → sp__law_settled K [.ref q, .int (F : Int), .ref c, .int (k : Int), .bl top] W Q2 E2 := fun Q2 E2 hQ => ⟨q, c, F, k, top, ls, g, w, n, fR, rfl, GW, hcW, w1, w3, n3, k1, by omega, hR, fun V2 e2 => by rw [hm]; exact hQ V2 e2⟩
    have body : ∀ V2, Same W V2 → (m ≤ L) → (L = F + 1 ∨ L = F) → True := fun _ _ _ _ => trivial
    show bIf (decide ((L : Int) = (F : Int) + 1)) _ _
    refine ifd (fun h1 => ?_) (fun h1 => ?_)
    · refine ift (c := True) trivial ?_
      show sp__law_settled K [.ref q, .int (F : Int), .ref c, .int (k : Int), .bl top] W _ _
      refine st _ _ fun V2 e2 => ?_
      show bIf (decide (m ≤ F)) _ _
      refine ifd (fun h2 => ?_) (fun h2 => ?_)
      · exact next F V2 (by omega) (eW.trans e2)
      · exact next L V2 (by omega) (eW.trans e2)
    · show bIf (decide ((j : Int) = 0)) _ _
      refine ifd (fun h3 => ?_) (fun h3 => ?_)
      · show sp__law_settled K [.ref q, .int (F : Int), .ref c, .int (k : Int), .bl top] W _ _
        refine st _ _ fun V2 e2 => ?_
        show bIf (decide (m ≤ F)) _ _
        refine ifd (fun h2 => ?_) (fun h2 => ?_)
        · exact next F V2 (by omega) (eW.trans e2)
        · exact next L V2 (by omega) (eW.trans e2)
      · exact next L W (by omega) eW
  · rintro σ W ⟨x5, x6, rfl, eW⟩
    rw [Int.toNat_natCast, if_neg (by omega), show max m (w + 2 - (w + 2)) = m by omega]
    walk_at "gx"
    exact good _ eW
end S
namespace S
open PySem PySem.Spec PyProof.Rows L2
def t_Bitmap_span_3 (K : Frag) (E : XK) : TS :=
    tRet (dGiv (CF K "Bitmap" ["ends", "size"]) (dMake K "Bitmap" (sp_Bitmapdd_initdd K) (EW E) (tCons (dVar 0) (tCons (dTup K (tCons (dVar 1) (tCons (dVar 2) (tNil)))) (tNil)))))
def t_Bitmap_span_2 (K : Frag) (E : XK) : TS :=
    tSeq (dIfS (dCmpT (oEq K) (dVar 2) (dVar 0)) (tRet (dGiv (CF K "Bitmap" ["ends", "size"]) (dMake K "Bitmap" (sp_Bitmapdd_initdd K) (EW E) (tCons (dVar 0) (tCons (dTup K (tCons (dVar 1) (tNil))) (tNil)))))) (tNext))
    (stop (t_Bitmap_span_3 K E))
def t_Bitmap_span_1 (K : Frag) (E : XK) : TS :=
    tSeq (dIfS (dCmpT (oEq K) (dVar 1) (dVar 2)) (tRet (dGiv (CF K "Bitmap" ["ends", "size"]) (dGiv (EmpT K (V.ref (He.dflAt ("Bitmap", some "__init__") 0 K))) (dMake K "Bitmap" (spD (sp_Bitmapdd_initdd K) [V.ref (He.dflAt ("Bitmap", some "__init__") 0 K)]) (EW E) (tCons (dVar 0) (tNil)))))) (tNext))
    (stop (t_Bitmap_span_2 K E))
def t_Bitmap_span (K : Frag) (E : XK) : TS :=
    tSeq (dIfS (dNot (dChain3T oLe oLe oLe (tC (.int 0)) (dVar 1) (dVar 2) (dVar 0))) (dGivS (ExF K "BadBitmap" ["SliceError"]) (dRaise K "BadBitmap" (WD E))) (tNext))
    (stop (t_Bitmap_span_1 K E))
end S
-- fn: Bitmap.span
-- law: k08
-- deps: Bitmap_init Bs _law_places
namespace S
open PySem PySem.Spec PyProof.Rows L2
def spanE (n a b : Int) : List Int := if a = b then [] else if b = n then [a] else [a, b]
theorem spanE_ends {n a b : Int} (h0 : 0 ≤ a) (h1 : a ≤ b) (h2 : b ≤ n) : Ends n (spanE n a b) := by
  unfold spanE
  split
  · exact ⟨.nil, fun _ z => nomatch z⟩
  · split
    · exact ⟨List.pairwise_singleton _ _, fun x hx => by rw [List.mem_singleton.mp hx]; omega⟩
    · refine ⟨.cons (fun x hx => by rw [List.mem_singleton.mp hx]; omega) (List.pairwise_singleton _ _), fun x hx => ?_⟩
      simp only [List.mem_cons, List.not_mem_nil, or_false] at hx
      rcases hx with rfl | rfl <;> omega
theorem spanE_in {n a b row : Int} (h1 : a ≤ b) (h2 : b ≤ n) (r1 : row < n) : inB (spanE n a b) row = decide (a ≤ row ∧ row < b) := by
  unfold spanE
  split
  · exact (decide_eq_false (by omega)).symm
  · split
    · show (if a ≤ row then !false else false) = _
      by_cases h : a ≤ row
      · rw [if_pos h, decide_eq_true ⟨h, by omega⟩]; rfl
      · rw [if_neg h, decide_eq_false (by omega)]
    · show (if b ≤ row then !(if a ≤ row then !false else false) else (if a ≤ row then !false else false)) = _
      by_cases h : a ≤ row
      · rw [if_pos h]
        by_cases h2 : b ≤ row
        · rw [if_pos h2, decide_eq_false (by omega)]; rfl
        · rw [if_neg h2, decide_eq_true ⟨h, by omega⟩]; rfl
      · rw [if_neg h, if_neg (by omega), decide_eq_false (by omega)]
def sp_Bitmap_span (K : Frag) : Sp := fun vs H Q E => ∃ (n a b : Int), vs = [.int n, .int a, .int b] ∧ (0 ≤ a ∧ a ≤ b ∧ b ≤ n → ∀ z H', Same H H' → H z = none → Bm K H' z n (spanE n a b) → Q (.ref z) H') ∧ (¬ (0 ≤ a ∧ a ≤ b ∧ b ≤ n) → XF K "BadBitmap" → E (.ref (He.ga K "BadBitmap")) none H)
theorem pure_Bitmap_span {K : Frag} (vs : List V) (H : Hp) (Q : VK) (E : XK) (h : sp_Bitmap_span K vs H Q E) : t_Bitmap_span K E { nx := fun _ H' => Q .non H', rt := Q } (start ["size", "start", "stop"] vs) H := by
  obtain ⟨n, a, b, rfl, good, bad⟩ := h
  by_cases h : 0 ≤ a ∧ a ≤ b ∧ b ≤ n
  · have n0 : 0 ≤ n := by omega
    have hE := spanE_ends h.1 h.2.1 h.2.2
    refine ift h.1 ?_
    refine ift h.2.1 ?_
    refine ifnf h.2.2 ?_
    walk_at "gx"
    refine ifd (fun hab => ?_) (fun hab => ?_)
    · have hab : a = b := hab
      have e0 : spanE n a b = [] := by unfold spanE; rw [if_pos hab]
      refine fun cf => ?_
      rintro ⟨d, hd, hdE⟩
      have key := mk_bitmap (K := K) (H := H) (n := n) (es := []) (p := d) (R := fun z H' => Q (.ref z) H') (E := E) cf (.inr (hdE H)) (fun _ _ z H' e nz hz => good h z H' e nz (by rw [e0]; exact hz)) (fun hb => absurd ⟨n0, .nil, fun _ z => nomatch z⟩ hb)
      rw [hd]
      exact key
    · have hab : ¬ a = b := hab
      walk_at "gx"
      refine ifd (fun hbn => ?_) (fun hbn => ?_)
      · have hbn : b = n := hbn
        have e0 : spanE n a b = [a] := by unfold spanE; rw [if_neg hab, if_pos hbn]
        rw [e0] at hE
        refine fun cf => ?_
        walk_at "gx"
        refine ⟨fun t H1 e1 ht => ?_⟩
        exact mk_bitmap (es := [a]) cf (.inr ht) (fun _ _ z H' e nz hz => good h z H' (e1.trans e) (same_none e1 nz) (by rw [e0]; exact hz)) (fun nb => absurd ⟨n0, hE⟩ nb)
      · have hbn : ¬ b = n := hbn
        have e0 : spanE n a b = [a, b] := by unfold spanE; rw [if_neg hab, if_neg hbn]
        rw [e0] at hE
        refine ⟨fun cf => ?_⟩
        walk_at "gx"
        refine ⟨fun t H1 e1 ht => ?_⟩
        exact mk_bitmap (es := [a, b]) cf (.inr ht) (fun _ _ z H' e nz hz => good h z H' (e1.trans e) (same_none e1 nz) (by rw [e0]; exact hz)) (fun nb => absurd ⟨n0, hE⟩ nb)
  · have out : bIf (decide (0 ≤ a)) (bIf (decide (a ≤ b)) (bIf (!decide (b ≤ n)) (XF K "BadBitmap" → E (.ref (He.ga K "BadBitmap")) none H) (stop (t_Bitmap_span_1 K E) { nx := fun _ H' => Q .non H', rt := Q } [some (.int n), some (.int a), some (.int b)] H)) (XF K "BadBitmap" → E (.ref (He.ga K "BadBitmap")) none H)) (XF K "BadBitmap" → E (.ref (He.ga K "BadBitmap")) none H) := by
      refine ifd (fun h1 => ifd (fun h2 => ?_) fun _ => bad h) fun _ => bad h
      refine ifnt (fun h3 => h ⟨h1, h2, h3⟩) (bad h)
    exact out
end S
-- deps: Bitmap_span Bx Bitmap_nth
/-! ## ranks of rows; the ends of spans -/
namespace S
open PySem PySem.Spec PyProof.Rows L2
theorem cnt_mono {f : Int → Bool} {a b : Nat} (hab : a ≤ b) : cntF f a ≤ cntF f b := by
  induction b with
  | zero => rw [Nat.le_zero.mp hab]; exact Int.le_refl _
  | succ b ih =>
    by_cases h : a = b + 1
    · rw [h]; exact Int.le_refl _
    · have := ih (by omega)
      show _ ≤ cntF f b + (if f b then 1 else 0)
      split <;> omega
theorem cnt_lt {f : Int → Bool} {a b : Nat} (hab : a < b) (ha : f a = true) : cntF f a < cntF f b := by
  have h1 := cnt_mono (f := f) (a := a + 1) (b := b) hab
  have h2 : cntF f (a + 1) = cntF f a + 1 := by
    show cntF f a + (if f a then 1 else 0) = _
    rw [if_pos ha]
  omega
theorem rank_lt {n : Int} {es : List Int} (h : Ends n es) {r s : Int} (r0 : 0 ≤ r) (rs : r < s) (hr : inB es r = true) : rankF r es 1 < rankF s es 1 := by
  obtain ⟨a, rfl⟩ := Int.eq_ofNat_of_zero_le r0
  obtain ⟨b, rfl⟩ := Int.eq_ofNat_of_zero_le (show 0 ≤ s by omega)
  rw [rank_cnt h a, rank_cnt h b]
  exact cnt_lt (by omega) hr
theorem rank_le {n : Int} {es : List Int} (h : Ends n es) {r s : Int} (r0 : 0 ≤ r) (rs : r ≤ s) : rankF r es 1 ≤ rankF s es 1 := by
  obtain ⟨a, rfl⟩ := Int.eq_ofNat_of_zero_le r0
  obtain ⟨b, rfl⟩ := Int.eq_ofNat_of_zero_le (show 0 ≤ s by omega)
  rw [rank_cnt h a, rank_cnt h b]
  exact cnt_mono (by omega)
theorem spanE_len {n a b : Int} : (spanE n a b).length ≤ 2 := by
  unfold spanE
  split
  · simp
  · split <;> simp
theorem spanE_memS {n a b z : Int} (h : z ∈ spanE n a b) : z = a ∨ (z = b ∧ b ≠ n) := by
  unfold spanE at h
  split at h
  · exact nomatch h
  · split at h
    · exact .inl (List.mem_singleton.mp h)
    · rename_i hb
      simp only [List.mem_cons, List.not_mem_nil, or_false] at h
      rcases h with h | h
      · exact .inl h
      · exact .inr ⟨h, hb⟩
end S
namespace S
open PySem PySem.Spec PyProof.Rows L2
def t_Bitmap_first_2 (K : Frag) (E : XK) : TS :=
    tRet (tOp (oOwn K "Bitmap" (sp_Bitmapdd_anddd K) E oAnd) (dVar 0) (dStat K (sp_Bitmap_span K) (EW E) (tCons (dAt K "size" (dVar 0)) (tCons (tC (.int 0)) (tCons (dMeth K "Bitmap" (sp_Bitmap_nth K) (EW E) (dVar 0) (tCons (dVar 1) (tNil))) (tNil))))))
def t_Bitmap_first_1 (K : Frag) (E : XK) : TS :=
    tSeq (dIfS (dCmpT oGe (dVar 1) (dProp K "Bitmap" (sp_Bitmap_ones K) (dVar 0))) (tRet (dVar 0)) (tNext))
    (stop (t_Bitmap_first_2 K E))
def t_Bitmap_first (K : Frag) (E : XK) : TS :=
    tSeq (dIfS (dCmpT oLt (dVar 1) (tC (.int 0))) (dGivS (ExF K "NoSuchRank" ["SliceError"]) (dRsI K "NoSuchRank" "number" (WD E) 1)) (tNext))
    (stop (t_Bitmap_first_1 K E))
end S
-- fn: Bitmap.first
-- law: k07
-- own: BitAnd=Bitmap
-- deps: Bitmap_nth Bitmap_span Bs Spm0
namespace S
open PySem PySem.Spec PyProof.Rows L2
def sp_Bitmap_first (K : Frag) : Sp := fun vs H Q E => ∃ (a : Addr) (n k : Int) (es : List Int), vs = [.ref a, .int k] ∧ Bm K H a n es ∧ n ≤ 2 * 10 ^ 18 ∧ es.length ≤ 40000 ∧
  (0 ≤ k → ∀ z es' H', Same H H' → Bm K H' z n es' → es'.length ≤ es.length + 2 → (∀ row, 0 ≤ row → row < n → inB es' row = (inB es row && decide (rankF row es 1 < k))) → (∀ x ∈ es', x ∈ es ∨ x = 0 ∨ (0 ≤ x ∧ x < n ∧ inB es x = true ∧ rankF x es 1 = k)) → Q (.ref z) H') ∧
  (¬ 0 ≤ k → XF K "NoSuchRank" → ∀ d, H d = none → E (.ref (He.ga K "NoSuchRank")) (some d) (upd H d (.xd [("number", .int k)])))
theorem pure_Bitmap_first {K : Frag} (vs : List V) (H : Hp) (Q : VK) (E : XK) (h : sp_Bitmap_first K vs H Q E) : t_Bitmap_first K E { nx := fun _ H' => Q .non H', rt := Q } (start ["self", "k"] vs) H := by
  obtain ⟨a, n, k, es, rfl, hb, n1, hl, good, bad⟩ := h
  obtain ⟨cf, n0, hE, dx, p, hs, hp⟩ := id hb
  walk_at "gx"
  refine ifd (fun k0 => ?_) (fun k0 => ?_)
  · exact fun xf => ⟨fun d nd => bad (by omega) xf d nd⟩
  have k0 : 0 ≤ k := by omega
  walk_at "gx"
  refine .of hs ⟨a, n, es, rfl, hb, n1, by omega, fun H1 e1 => ?_⟩
  refine ifd (fun k1 => ?_) (fun k1 => ?_)
  · have k1 : rankF n es 1 ≤ k := k1
    refine good k0 a es H1 e1 (hb.same e1) (by omega) (fun row r0 r1 => ?_) fun x hx => .inl hx
    cases hi : inB es row with
    | false => rfl
    | true =>
      rw [decide_eq_true (Int.lt_of_lt_of_le (rank_lt hE r0 r1 hi) k1)]
      rfl
  · have k1 : k < rankF n es 1 := by
      have k1 : ¬ rankF n es 1 ≤ k := k1
      omega
    have hb1 := hb.same e1
    have hs1 := Same.slt e1 hs
    walk_at "gx"
    refine Atr.sl cf hs1 (i := 1) rfl rfl ?_
    refine .of hs1 ⟨a, n, k, es, rfl, hb1, n1, by omega, fun _ _ r H2 e2 r0 r1 hr hk => ?_, fun nb => absurd ⟨k0, k1⟩ nb⟩
    refine ⟨n, 0, r, rfl, fun _ z H3 e3 _ hz => ?_, fun nb => absurd ⟨Int.le_refl _, r0, by omega⟩ nb⟩
    have hb3 := (hb1.same e2).same e3
    have l2 := spanE_len (n := n) (a := 0) (b := r)
    obtain ⟨_, _, _, dx3, u3, sl3, _⟩ := id hb3
    obtain ⟨_, _, hEz, dxz, uz, slz, _⟩ := id hz
    refine .of sl3 (.of slz ⟨a, z, rfl, n, n, es, spanE n 0 r, hb3, hz, by omega, by omega, fun _ w H4 e4 _ hw => ?_, fun hn => absurd rfl hn⟩)
    refine good k0 w _ H4 (((e1.trans e2).trans e3).trans e4) hw (by have := join_len (r := rAnd) (es := es) (fs := spanE n 0 r); omega) (fun row q0 q1 => ?_) fun x hx => ?_
    · rw [join_in hE hEz rfl, spanE_in r0 (by omega) q1]
      show (inB es row && _) = _
      cases hi : inB es row with
      | false => rfl
      | true =>
        show decide _ = decide _
        rw [decide_eq_decide]
        constructor
        · intro z
          have := rank_lt hE q0 z.2 hi
          omega
        · intro z
          refine ⟨q0, ?_⟩
          by_cases h : row < r
          · exact h
          · have := rank_le hE r0 (show r ≤ row by omega)
            omega
    · rcases sweep_mem hE hEz hx with h | h
      · exact .inl h
      · rcases spanE_memS h with h | ⟨h, _⟩
        · exact .inr (.inl h)
        · subst h
          exact .inr (.inr ⟨r0, r1, hr, hk⟩)
end S
-- deps: Schema_init
namespace S
open PySem PySem.Spec PyProof.Rows L2
theorem gc_uniq {cs : List Col} {c c' : Col} (g : goodC cs) (h : c ∈ cs) (h' : c' ∈ cs) (e : c.1 = c'.1) : c = c' := by
  obtain ⟨i1, g1⟩ := List.mem_iff_getElem?.mp h
  obtain ⟨i2, g2⟩ := List.mem_iff_getElem?.mp h'
  obtain ⟨l1, k1⟩ := List.getElem?_eq_some_iff.mp g1
  obtain ⟨l2, k2⟩ := List.getElem?_eq_some_iff.mp g2
  have : i1 = i2 := by
    refine Classical.byContradiction fun ne => ?_
    have pw := List.pairwise_iff_getElem.mp g.1
    rcases Nat.lt_or_gt_of_ne ne with h | h
    · have := pw i1 i2 (by rw [List.length_map]; exact l1) (by rw [List.length_map]; exact l2) h
      rw [List.getElem_map, List.getElem_map, k1, k2] at this
      exact this e
    · have := pw i2 i1 (by rw [List.length_map]; exact l2) (by rw [List.length_map]; exact l1) h
      rw [List.getElem_map, List.getElem_map, k1, k2] at this
      exact this e.symm
  subst this
  rw [← k1, ← k2]
end S
namespace S
open PySem PySem.Spec PyProof.Rows L2
def t_first_rows_b1_5 (K : Frag) (E : XK) : TS :=
    dIfS (dCmpT (oEq K) (dVar 9) (tC (.int 0))) (tBreak) (tNext)
def t_first_rows_b1_4 (K : Frag) (E : XK) : TS :=
    tSeq (dIfS (dCmpT oGt (dProp K "Bitmap" (sp_Bitmap_ones K) (dVar 12)) (dVar 9)) (tAsg (dVar 12) (gName 8)) (tSeq (tAsg (tOp (oOwn K "Bitmap" (sp_Bitmapdd_ordd K) E oOr) (dVar 6) (dVar 12)) (gName 6))
    (tSeq (tAsg (tOp (oOwn K "Bitmap" (sp_Bitmapdd_subdd K) E oSub) (dVar 8) (dVar 12)) (gName 8))
    (tAsg (tOp (oOwn K "Bitmap" (sp_Bitmapdd_subdd K) E oSub) (dVar 9) (dProp K "Bitmap" (sp_Bitmap_ones K) (dVar 12))) (gName 9)))))
    (stop (t_first_rows_b1_5 K E))
def t_first_rows_b1_3 (K : Frag) (E : XK) : TS :=
    tSeq (tAsg (tOp (oOwn K "Bitmap" (sp_Bitmapdd_anddd K) E oAnd) (dVar 8) (dVar 11)) (gName 12))
    (stop (t_first_rows_b1_4 K E))
def t_first_rows_b1_2 (K : Frag) (E : XK) : TS :=
    tSeq (dIfS (dCmpT (oEq K) (tOp (oEq K) (dVar 10) (tOp (oOwn K "Bitmap" (sp_Bitmapdd_subdd K) E oSub) (dVar 5) (tC (.int 1)))) (dVar 4)) (tAsg (tUn (uOwn K "Bitmap" (sp_Bitmapdd_invertdd K) E) (dVar 11)) (gName 11)) (tNext))
    (stop (t_first_rows_b1_3 K E))
def t_first_rows_b1_1 (K : Frag) (E : XK) : TS :=
    tSeq (tAsg (dMethD K "Store" "fetch" (sp_Store_fetch K) (EW E) (dVar 0) (tCons (dVar 1) (tCons (dVar 10) (tNil)))) (gName 11))
    (stop (t_first_rows_b1_2 K E))
def t_first_rows_b1 (K : Frag) (E : XK) : TS :=
    tSeq (tDrop (dML K mApp (dVar 7) (tCons (dTup K (tCons (dVar 1) (tCons (dVar 10) (tNil)))) (tNil))))
    (stop (t_first_rows_b1_1 K E))
def t_first_rows_11 (K : Frag) (E : XK) : TS :=
    tRet (dTup K (tCons (tOp (oOwn K "Bitmap" (sp_Bitmapdd_ordd K) E oOr) (dVar 6) (dMeth K "Bitmap" (sp_Bitmap_first K) (EW E) (dVar 8) (tCons (dVar 9) (tNil)))) (tCons (tCB (cTuple K) (tCons (dVar 7) (tNil))) (tNil))))
def t_first_rows_10 (K : Frag) (E : XK) : TS :=
    tSeq (dFor (iRngD (tCons (tOp (oOwn K "Bitmap" (sp_Bitmapdd_subdd K) E oSub) (dVar 5) (tC (.int 1))) (tCons (tUn uNeg (tC (.int 1))) (tCons (tUn uNeg (tC (.int 1))) (tNil))))) (gName 10) (t_first_rows_b1 K E))
    (stop (t_first_rows_11 K E))
def t_first_rows_9 (K : Frag) (E : XK) : TS :=
    tSeq (tAsg (dVar 2) (gName 9))
    (stop (t_first_rows_10 K E))
def t_first_rows_8 (K : Frag) (E : XK) : TS :=
    tSeq (dIfS (dCmpT oLe (dProp K "Bitmap" (sp_Bitmap_ones K) (dVar 8)) (dVar 2)) (tRet (dTup K (tCons (dVar 8) (tCons (tCB (cTuple K) (tCons (dVar 7) (tNil))) (tNil))))) (tNext))
    (stop (t_first_rows_9 K E))
def t_first_rows_7 (K : Frag) (E : XK) : TS :=
    tSeq (tAsg (tOp (oOwn K "Bitmap" (sp_Bitmapdd_anddd K) E oAnd) (dVar 3) (dMethD K "Store" "fetch" (sp_Store_fetch K) (EW E) (dVar 0) (tCons (dVar 1) (tCons (tUn uNeg (tC (.int 1))) (tNil))))) (gName 8))
    (stop (t_first_rows_8 K E))
def t_first_rows_6 (K : Frag) (E : XK) : TS :=
    tSeq (tAsg (dLst (tCons (dTup K (tCons (dVar 1) (tCons (tUn uNeg (tC (.int 1))) (tNil)))) (tNil))) (gName 7))
    (stop (t_first_rows_7 K E))
def t_first_rows_5 (K : Frag) (E : XK) : TS :=
    tSeq (dIfS (dOr (dCmpT (oEq K) (dVar 2) (tC (.int 0))) (dNot (dTestO K "Bitmap" (sp_Bitmapdd_booldd K) E (dVar 3)))) (tRet (dTup K (tCons (dVar 6) (tCons (dTup K (tNil)) (tNil))))) (tNext))
    (stop (t_first_rows_6 K E))
def t_first_rows_4 (K : Frag) (E : XK) : TS :=
    tSeq (tAsg (dStat K (sp_Bitmap_empty K) (EW E) (tCons (dAt K "size" (dVar 0)) (tNil))) (gName 6))
    (stop (t_first_rows_5 K E))
def t_first_rows_3 (K : Frag) (E : XK) : TS :=
    tSeq (dIfS (dCmpT oLt (dVar 2) (tC (.int 0))) (dGivS (ExF K "NoSuchRank" ["SliceError"]) (dRsI K "NoSuchRank" "number" (WD E) 2)) (tNext))
    (stop (t_first_rows_4 K E))
def t_first_rows_2 (K : Frag) (E : XK) : TS :=
    tSeq (dIfS (dCmpT (oNe K) (dAt K "size" (dVar 3)) (dAt K "size" (dVar 0))) (dGivS (ExF K "SizesDiffer" ["SliceError"]) (dRaise K "SizesDiffer" (WD E))) (tNext))
    (stop (t_first_rows_3 K E))
def t_first_rows_1 (K : Frag) (E : XK) : TS :=
    tSeq (dIfS (dCmpT oIsN (dVar 3) (tC .non)) (tAsg (dStat K (sp_Bitmap_full K) (EW E) (tCons (dAt K "size" (dVar 0)) (tNil))) (gName 3)) (tNext))
    (stop (t_first_rows_2 K E))
def t_first_rows (K : Frag) (E : XK) : TS :=
    tSeq (tAsg (dMethD K "Schema" "width_of" (sp_Schema_width_of K) (EW E) (dAt K "schema" (dVar 0)) (tCons (dVar 1) (tNil))) (gName 5))
    (stop (t_first_rows_1 K E))
end S
-- fn: first_rows
-- law: k71
-- own: BitAnd=Bitmap BitOr=Bitmap Sub=Bitmap Invert=Bitmap bool=Bitmap
-- deps: Store_fetch Bitmap_first Bitmap_empty Bitmap_ops Fst Bx Bs Guq Column_at Nef Fr
open PySem PySem.Spec PyProof.Rows L2 S in
local macro_rules | `(tactic| walk_at "sp") => `(tactic| dsimp only [dVar, S.nth, S.onSome, tCons, tNil, tC, dCall, List.set, tSeq, dIfS, dCmpT, tAsg, tRet, tOp, gName, dNot, dTest, dOr, dMeth, dMethD, oOwn, dTup, dProp, dStat, uOwn, tUn, uNeg, tDrop, dLst])
namespace S
open PySem PySem.Spec PyProof.Rows L2
/-- presence, sign, then downward -/
def pthZ (z : Str) (w : Int) : List Col := (z, -1) :: (List.range w.toNat).map fun j : Nat => (z, w - 1 - (j : Int))
abbrev bitH (he : Col → List Int) (z : Str) (p : Nat) (r : Int) : Bool := inB (he (z, (p : Int))) r
abbrev frH (n : Int) (fR : Int → Bool) (he : Col → List Int) (z : Str) (w : Int) (top : Bool) (k : Int) : (Int → Bool) × Nat := frE n fR (inB (he (z, -1))) (btF (bitH he z) w.toNat top) w.toNat k
def sp_first_rows (K : Frag) : Sp := fun vs H Q E => ∃ (x l d : Addr) (cs : List Col) (n : Int) (he : Col → List Int) (lg : List Col) (z : Str) (k : Int) (vr : V) (top : Bool) (mo : Int) (fR : Int → Bool) (S : List Int), vs = [.ref x, .str z, .int k, vr, .bl top] ∧ StO K H x l d cs n he lg ∧ lg.length ≤ 50000 ∧ n ≤ 10 ^ 18 ∧ Kn S ∧ (∀ c, ∀ e ∈ he c, e ∈ S) ∧
  ((vr = .non ∧ mo = n ∧ fR = fun _ => true) ∨ ∃ rb, vr = .ref rb ∧ Bs K H rb mo fR S) ∧
  ((∀ c ∈ cs, c.1 ≠ z) → XE K "NoSuchColumn" → ∀ dd, H dd = none → E (.ref (He.ga K "NoSuchColumn")) (some dd) (upd H dd (.xd [("name", .str z)]))) ∧
  (∀ w, (z, w) ∈ cs → mo ≠ n → XF K "SizesDiffer" → ∀ H', Same H H' → E (.ref (He.ga K "SizesDiffer")) none H') ∧
  (∀ w, (z, w) ∈ cs → mo = n → k < 0 → XF K "NoSuchRank" → ∀ H' dd, Same H H' → H' dd = none → E (.ref (He.ga K "NoSuchRank")) (some dd) (upd H' dd (.xd [("number", .int k)]))) ∧
  (∀ w, (z, w) ∈ cs → mo = n → 0 ≤ k → ∀ (t c u : Addr) (tl : List V) (H' : Hp), SameX l H H' → StO K H' x l d cs n he (lg ++ (pthZ z w).take (frH n fR he z w top k).2) → SqT K H' t [.ref c, .ref u] → Bx K H' c n (frH n fR he z w top k).1 (3 * S.length + 10) → SqT K H' u tl → Cols K H' tl ((pthZ z w).take (frH n fR he z w top k).2) → Q (.ref t) H')
theorem Bs.bx {K : Frag} {H : Hp} {x : Addr} {n : Int} {f : Int → Bool} {S : List Int} (h : Bs K H x n f S) : Bx K H x n f S.length := by
  obtain ⟨es, h1, h2, h3⟩ := h
  exact ⟨es, h1, asc_len _ _ h1.2.2.1.1 h2, h3⟩
theorem Bx.mono {K : Frag} {H : Hp} {x : Addr} {n : Int} {f : Int → Bool} {m m' : Nat} (h : Bx K H x n f m) (l : m ≤ m') : Bx K H x n f m' := by
  obtain ⟨es, h1, h2, h3⟩ := h
  exact ⟨es, h1, Nat.le_trans h2 l, h3⟩
theorem bs_sub2 {K : Frag} {H : Hp} {x y : Addr} {n : Int} {f g : Int → Bool} {S : List Int} {Q : VK} {E : XK} (kn : Kn S) (h1 : Bs K H x n f S) (h2 : Bs K H y n g S) (q : ∀ z H', Same H H' → H z = none → Bs K H' z n (fun row => rLess (f row) (g row)) S → Q (.ref z) H') : IsO K H "Bitmap" x (IsO K H "Bitmap" y (sp_Bitmapdd_subdd K [.ref x, .ref y] H Q E)) := bs_O2 h1 h2 ⟨x, y, rfl, bs_join kn h1 h2 rfl q⟩
theorem bs_ones2 {K : Frag} {H : Hp} {x : Addr} {n : Int} {f : Int → Bool} {S : List Int} {Q : VK} {E : XK} (kn : Kn S) (h1 : Bs K H x n f S) (hn : n ≤ 10 ^ 18) (q : ∀ H', Same H H' → Q (.int (cntF f n.toNat)) H') : IsO K H "Bitmap" x (sp_Bitmap_ones K [.ref x] H Q E) := bx_ones h1.bx (by have := kn.len; omega) (by omega) q
theorem pthZ_take {z : Str} {w : Int} {i : Nat} (h : i < w.toNat) : (pthZ z w).take (1 + (i + 1)) = (pthZ z w).take (1 + i) ++ [(z, w - 1 - (i : Int))] := by
  unfold pthZ
  rw [show 1 + (i + 1) = (i + 1) + 1 by omega, show 1 + i = i + 1 by omega, List.take_succ_cons, List.take_succ_cons, List.take_add_one, List.getElem?_map, List.getElem?_range h]
  rfl
section
variable {K : Frag} {E : XK} {Q : VK} {H W : Hp} {x l d q : Addr} {cs : List Col} {n : Int} {he : Col → List Int} {lg us : List Col} {z : Str} {k w : Int} {vr : V} {top : Bool} {S : List Int} {fR : Int → Bool}
/-- what stands at a turn of the loop -/
structure FrW (K : Frag) (H W : Hp) (x l d q : Addr) (cs : List Col) (n : Int) (he : Col → List Int) (lg us : List Col) (S : List Int) : Prop where
  e : SameX l H W
  o : StO K W x l d cs n he (lg ++ us)
  nq : H q = none
  nl : q ≠ l
  hq : ∃ tl, W q = some (.lst tl) ∧ Cols K W tl us
/-- the same, the list of used ones ahead of the log -/
structure FrQ (K : Frag) (H W : Hp) (x l d q : Addr) (cs : List Col) (n : Int) (he : Col → List Int) (lg us u2 : List Col) (S : List Int) : Prop where
  e : SameX l H W
  o : StO K W x l d cs n he (lg ++ us)
  nq : H q = none
  nl : q ≠ l
  hq : ∃ tl, W q = some (.lst tl) ∧ Cols K W tl u2
theorem FrW.same {W' : Hp} (h : FrW K H W x l d q cs n he lg us S) (e : Same W W') : FrW K H W' x l d q cs n he lg us S := ⟨h.e.then e, h.o.same e, h.nq, h.nl, let ⟨tl, a, b⟩ := h.hq; ⟨tl, e _ _ a, b.same e⟩⟩
theorem bx_first {b : Addr} {u : Int → Bool} {kw : Int} (kn : Kn S) (hn : n ≤ 10 ^ 18) (hu : Bs K W b n u S) (k0 : 0 ≤ kw) (q : ∀ y H', Same W H' → Bx K H' y n (fstK u kw) (S.length + 2) → Q (.ref y) H') : IsO K W "Bitmap" b (sp_Bitmap_first K [.ref b, .int kw] W Q E) := by
  obtain ⟨dx, vs, sl⟩ := hu.slt
  obtain ⟨es, h1, h2, h3⟩ := hu
  have hE := h1.2.2.1
  have ll := asc_len _ _ hE.1 h2
  have lk := kn.len
  refine .of sl ⟨b, n, kw, es, rfl, h1, by omega, by omega, fun _ y es' H' e hy ly hr _ => q y H' e ⟨es', hy, by omega, fun row r0 r1 => ?_⟩, fun nb => absurd k0 nb⟩
  rw [hr row r0 r1, h3 row r0 r1]
  unfold fstK
  have z := rank_cnt hE row.toNat
  rw [Int.toNat_of_nonneg r0, cnt_congr row.toNat fun j hj => h3 j (by omega) (by omega)] at z
  rw [z]
theorem fr_11 {rb xc xu : Addr} {kw : Int} {p10 p11 p12 : Option V} {c u : Int → Bool} (kn : Kn S) (hn : n ≤ 10 ^ 18) (h : FrW K H W x l d q cs n he lg us S) (hc : Bs K W xc n c S) (hu : Bs K W xu n u S) (k0 : 0 ≤ kw)
    (g : ∀ (t c' u' : Addr) (tl : List V) (H' : Hp), SameX l H H' → StO K H' x l d cs n he (lg ++ us) → SqT K H' t [.ref c', .ref u'] → Bx K H' c' n (fun r => rOr (c r) (fstK u kw r)) (3 * S.length + 10) → SqT K H' u' tl → Cols K H' tl us → Q (.ref t) H') :
    t_first_rows_11 K E { nx := fun _ H' => Q .non H', rt := Q } [some (.ref x), some (.str z), some (.int k), some (.ref rb), some (.bl top), some (.int w), some (.ref xc), some (.ref q), some (.ref xu), some (.int kw), p10, p11, p12] W := by
  have lk := kn.len
  obtain ⟨tl, hq, hC⟩ := h.hq
  unfold t_first_rows_11
  walk_at "sp"
  refine bx_first (n := n) kn hn hu k0 fun y H1 e1 hy => ?_
  refine bx_or (hc.bx.same e1) hy (by omega) (by omega) fun o H2 e2 ho => ?_
  have hq2 := e2 _ _ (e1 _ _ hq)
  refine Rd.l hq2 ⟨fun u' H3 e3 hu' => ?_⟩
  have e13 := (e1.trans e2).trans e3
  refine Need.mk (by rw [sizeLine_eq]; show 2 ≤ 16777216; decide) ⟨fun t H4 e4 ht => ?_⟩
  have e14 := e13.trans e4
  exact g t o u' tl H4 (h.e.then e14) (h.o.same e14) ht (((ho.same e3).same e4).mono (by omega)) (Same.tup e4 hu') (hC.same e14)
/-- a slice of the column is fetched -/
theorem fr_fetch {p : Int} {u2 : List Col} (h : FrQ K H W x l d q cs n he lg us u2 S) (hwz : (z, w) ∈ cs) (p0 : -1 ≤ p) (p1 : p < w) (ll : (lg ++ us).length ≤ 100000) (hs : ∀ c, ∀ e ∈ he c, e ∈ S)
    (g : ∀ b W', SameX l W W' → SameX l H W' → StO K W' x l d cs n he (lg ++ us ++ [(z, p)]) → (∃ tl, W' q = some (.lst tl) ∧ Cols K W' tl u2) → Bs K W' b n (inB (he (z, p))) S → Q (.ref b) W') : IsD K W "Store" "fetch" x (sp_Store_fetch K [.ref x, .str z, .int p] W Q E) := by
  obtain ⟨sf, n0, hw, lc, dx, s, tl, hx, hS, hH, hl, hC⟩ := id h.o
  obtain ⟨scf, gc, _⟩ := id hS
  obtain ⟨tl2, hq, hCq⟩ := h.hq
  refine IsD.of hx ⟨x, l, d, cs, n, he, lg ++ us, z, p, rfl, h.o, ll, fun hin b W' e ho hb => ?_, fun no => absurd rfl (no _ hwz), fun w' hw' nb => ?_⟩
  · refine g b W' e (h.e.trans e) ho ⟨tl2, e _ _ hq h.nl, hCq.x e hl⟩ ⟨_, hb, hs _, fun _ _ _ => rfl⟩
  · have := gc_uniq gc hwz hw' rfl
    cases this
    exact absurd ⟨p0, p1⟩ nb
theorem fr_b1 {D : L2.Ends} {rb xc xu : Addr} {kw : Int} {p : Nat} {p11 p12 : Option V} {c u : Int → Bool} (kn : Kn S) (hn : n ≤ 10 ^ 18) (h : FrW K H W x l d q cs n he lg us S) (hwz : (z, w) ∈ cs) (p1 : (p : Int) < w) (ll : (lg ++ us).length ≤ 90000) (lu : us.length ≤ 90000) (hs : ∀ c, ∀ e ∈ he c, e ∈ S) (hc : Bs K W xc n c S) (hu : Bs K W xu n u S)
    (kA : kw < cntF (fun r => rAnd (u r) (btF (bitH he z) w.toNat top p r)) n.toNat → ∀ xa W' p11 p12, FrW K H W' x l d q cs n he lg (us ++ [(z, (p : Int))]) S → Bs K W' xc n c S → Bs K W' xa n (fun r => rAnd (u r) (btF (bitH he z) w.toNat top p r)) S → D.nx [some (.ref x), some (.str z), some (.int k), some (.ref rb), some (.bl top), some (.int w), some (.ref xc), some (.ref q), some (.ref xa), some (.int kw), some (.int (p : Int)), p11, p12] W')
    (kB : ¬ kw < cntF (fun r => rAnd (u r) (btF (bitH he z) w.toNat top p r)) n.toNat → ∀ xo xa W' p11 p12, FrW K H W' x l d q cs n he lg (us ++ [(z, (p : Int))]) S → Bs K W' xo n (fun r => rOr (c r) (rAnd (u r) (btF (bitH he z) w.toNat top p r))) S → Bs K W' xa n (fun r => rLess (u r) (rAnd (u r) (btF (bitH he z) w.toNat top p r))) S →
      (if kw - cntF (fun r => rAnd (u r) (btF (bitH he z) w.toNat top p r)) n.toNat = 0 then D.bk else D.nx) [some (.ref x), some (.str z), some (.int k), some (.ref rb), some (.bl top), some (.int w), some (.ref xo), some (.ref q), some (.ref xa), some (.int (kw - cntF (fun r => rAnd (u r) (btF (bitH he z) w.toNat top p r)) n.toNat)), some (.int (p : Int)), p11, p12] W') (kw0 : kw ≠ 0) :
    t_first_rows_b1 K E D [some (.ref x), some (.str z), some (.int k), some (.ref rb), some (.bl top), some (.int w), some (.ref xc), some (.ref q), some (.ref xu), some (.int kw), some (.int (p : Int)), p11, p12] W := by
  obtain ⟨tl, hq, hC⟩ := h.hq
  have lt : tl.length = us.length := (Paired.length hC).symm
  walk_at "gx"
  refine ⟨fun t W1 e1 ht => ?_⟩
  have hq1 := e1 _ _ hq
  refine Ls.of hq1 (Need.mk (by rw [sizeLine_eq]; omega) ?_)
  dsimp only
  have ex : SameX q W1 (upd W1 q (.lst (tl ++ [.ref t]))) := SameX.upd
  have hq2 : upd W1 q (.lst (tl ++ [.ref t])) q = some (.lst (tl ++ [.ref t])) := upd_same
  have o2 := (h.o.same e1).x ex hq1 (Ne.symm h.nl)
  have c2 := cols_snoc (c := (z, (p : Int))) ((hC.same e1).x ex hq1) ⟨t, rfl, ex.tup ht hq1⟩
  have hc2 := (hc.same e1).x ex hq1
  have hu2 := (hu.same e1).x ex hq1
  have eH : SameX l H (upd W1 q (.lst (tl ++ [.ref t]))) := fun b o hb nb => by
    have nbq : b ≠ q := fun y => by rw [y, h.nq] at hb; cases hb
    rw [upd_ne nbq]
    exact e1 _ _ (h.e _ _ hb nb)
  generalize upd W1 q (.lst (tl ++ [.ref t])) = W2 at *
  walk_at "gx"
  obtain ⟨tlx, lx⟩ := o2.log
  unfold t_first_rows_b1_1
  walk_at "sp"
  have h2 : FrQ K H W2 x l d q cs n he lg us (us ++ [(z, (p : Int))]) S := ⟨eH, o2, h.nq, h.nl, _, hq2, c2⟩
  refine fr_fetch h2 hwz (by omega) p1 (by omega) hs fun b W3 e3 e03 o3 hq3 hb3 => ?_
  have hc3 := hc2.x e3 lx
  have hu3 := hu2.x e3 lx
  have F3 : FrW K H W3 x l d q cs n he lg (us ++ [(z, (p : Int))]) S := ⟨e03, by rw [← List.append_assoc]; exact o3, h.nq, h.nl, hq3⟩
  have rest : ∀ bm W4, FrW K H W4 x l d q cs n he lg (us ++ [(z, (p : Int))]) S → Bs K W4 xc n c S → Bs K W4 xu n u S → Bs K W4 bm n (btF (bitH he z) w.toNat top p) S → t_first_rows_b1_3 K E D [some (.ref x), some (.str z), some (.int k), some (.ref rb), some (.bl top), some (.int w), some (.ref xc), some (.ref q), some (.ref xu), some (.int kw), some (.int (p : Int)), some (.ref bm), p12] W4 := by
    intro bm W4 F4 hc4 hu4 hb4
    unfold t_first_rows_b1_3
    walk_at "sp"
    refine bs_and kn hu4 hb4 fun xa W5 e5 _ ha5 => ?_
    have F5 := F4.same e5
    have hc5 := hc4.same e5
    have hu5 := hu4.same e5
    refine ⟨?_⟩
    unfold t_first_rows_b1_4
    walk_at "sp"
    refine bs_ones2 kn ha5 hn fun W6 e6 => ?_
    have F6 := F5.same e6
    have hc6 := hc5.same e6
    have hu6 := hu5.same e6
    have ha6 := ha5.same e6
    refine ifd (fun h1 => ?_) (fun h1 => ?_)
    · refine ⟨?_⟩
      unfold t_first_rows_b1_5
      walk_at "sp"
      refine ifd (fun h0 => absurd h0 kw0) (fun _ => ?_)
      exact kA h1 xa W6 _ _ F6 hc6 ha6
    · refine bs_or kn hc6 ha6 fun xo W7 e7 _ ho7 => ?_
      refine bs_sub2 kn (hu6.same e7) (ha6.same e7) fun xn W8 e8 _ hn8 => ?_
      refine bs_ones2 kn ((ha6.same e7).same e8) hn fun W9 e9 => ?_
      have kB := kB h1 xo xn W9 (some (.ref bm)) (some (.ref xa)) (F6.same ((e7.trans e8).trans e9)) ((ho7.same e8).same e9) (hn8.same e9)
      refine ⟨?_⟩
      unfold t_first_rows_b1_5
      walk_at "sp"
      refine ifd (fun h0 => ?_) (fun h0 => ?_)
      · rw [if_pos (show kw - cntF _ n.toNat = 0 from h0)] at kB
        exact kB
      · rw [if_neg (show ¬ kw - cntF _ n.toNat = 0 from h0)] at kB
        exact kB
  refine ⟨?_⟩
  have ep : (decide ((p : Int) = w - 1) : Bool) = decide (p + 1 = w.toNat) := by rw [decide_eq_decide]; omega
  show bIf (decide (decide ((p : Int) = w - 1) = top)) _ _
  rw [ep]
  refine ifd (fun h1 => ?_) (fun h1 => ?_)
  · refine bs_inv kn hb3 fun bm W4 e4 _ hb4 => ?_
    refine ⟨rest bm W4 (F3.same e4) (hc3.same e4) (hu3.same e4) ?_⟩
    have : btF (bitH he z) w.toNat top p = fun row => !(inB (he (z, (p : Int))) row) := by
      funext r
      unfold btF
      rw [h1, if_pos (by simp)]
    rw [this]
    exact hb4
  · refine ⟨rest b W3 F3 hc3 hu3 ?_⟩
    have : btF (bitH he z) w.toNat top p = fun row => inB (he (z, (p : Int))) row := by
      funext r
      unfold btF
      rw [if_neg (by simpa using h1)]
    rw [this]
    exact hb3
theorem fsR_succ (n : Nat) (bt : Nat → Int → Bool) (p : Nat) (c u : Int → Bool) (k : Int) (m : Nat) : fsR n bt (p + 1) c u k m =
    if k < cntF (fun r => rAnd (u r) (bt p r)) n then fsR n bt p c (fun r => rAnd (u r) (bt p r)) k (m + 1)
    else if k - cntF (fun r => rAnd (u r) (bt p r)) n = 0 then ⟨fun r => rOr (c r) (rAnd (u r) (bt p r)), fun r => rLess (u r) (rAnd (u r) (bt p r)), 0, m + 1⟩
    else fsR n bt p (fun r => rOr (c r) (rAnd (u r) (bt p r))) (fun r => rLess (u r) (rAnd (u r) (bt p r))) (k - cntF (fun r => rAnd (u r) (bt p r)) n) (m + 1) := rfl
theorem fr_10 {rb xc xu : Addr} {p10 p11 p12 : Option V} {u0 : Int → Bool} (kn : Kn S) (hn : n ≤ 10 ^ 18) (h : FrW K H W x l d q cs n he lg [(z, -1)] S) (hwz : (z, w) ∈ cs) (w0 : 1 ≤ w) (w1 : w ≤ 1000) (ll : lg.length ≤ 50000) (hs : ∀ c, ∀ e ∈ he c, e ∈ S) (hc : Bs K W xc n (fun _ => false) S) (hu : Bs K W xu n u0 S) (k0 : 0 < k)
    (g : ∀ (t c' u' : Addr) (tl : List V) (H' : Hp), SameX l H H' → StO K H' x l d cs n he (lg ++ (pthZ z w).take (1 + (fsR n.toNat (btF (bitH he z) w.toNat top) w.toNat (fun _ => false) u0 k 0).m)) → SqT K H' t [.ref c', .ref u'] → Bx K H' c' n (fun r => rOr ((fsR n.toNat (btF (bitH he z) w.toNat top) w.toNat (fun _ => false) u0 k 0).c r) (fstK (fsR n.toNat (btF (bitH he z) w.toNat top) w.toNat (fun _ => false) u0 k 0).u (fsR n.toNat (btF (bitH he z) w.toNat top) w.toNat (fun _ => false) u0 k 0).k r)) (3 * S.length + 10) → SqT K H' u' tl → Cols K H' tl ((pthZ z w).take (1 + (fsR n.toNat (btF (bitH he z) w.toNat top) w.toNat (fun _ => false) u0 k 0).m)) → Q (.ref t) H') :
    t_first_rows_10 K E { nx := fun _ H' => Q .non H', rt := Q } [some (.ref x), some (.str z), some (.int k), some (.ref rb), some (.bl top), some (.int w), some (.ref xc), some (.ref q), some (.ref xu), some (.int k), p10, p11, p12] W := by
  have fin : ∀ (s : FS) (xc xu : Addr) (W : Hp) (p10 p11 p12 : Option V), s = fsR n.toNat (btF (bitH he z) w.toNat top) w.toNat (fun _ => false) u0 k 0 → FrW K H W x l d q cs n he lg ((pthZ z w).take (1 + s.m)) S → Bs K W xc n s.c S → Bs K W xu n s.u S → 0 ≤ s.k →
      t_first_rows_11 K E { nx := fun _ H' => Q .non H', rt := Q } [some (.ref x), some (.str z), some (.int k), some (.ref rb), some (.bl top), some (.int w), some (.ref xc), some (.ref q), some (.ref xu), some (.int s.k), p10, p11, p12] W := by
    intro s xc xu W p10 p11 p12 es hW hc hu hk
    subst es
    exact fr_11 kn hn hW hc hu hk g
  obtain ⟨m, hm⟩ : ∃ m : Nat, w = (m : Int) + 1 := ⟨(w - 1).toNat, by omega⟩
  have mw : w.toNat = m + 1 := by omega
  walk_at "gx"
  refine for_rngD (a := w - 1) (b := -1) (fun i σ W' => ∃ (c u : Int → Bool) (kw : Int) (xc xu : Addr) (p10 p11 p12 : Option V), σ = [some (.ref x), some (.str z), some (.int k), some (.ref rb), some (.bl top), some (.int w), some (.ref xc), some (.ref q), some (.ref xu), some (.int kw), p10, p11, p12] ∧ FrW K H W' x l d q cs n he lg ((pthZ z w).take (1 + i)) S ∧ Bs K W' xc n c S ∧ Bs K W' xu n u S ∧ 0 < kw ∧
    fsR n.toNat (btF (bitH he z) w.toNat top) w.toNat (fun _ => false) u0 k 0 = fsR n.toNat (btF (bitH he z) w.toNat top) (w.toNat - i) c u kw i) ⟨_, _, k, xc, xu, p10, p11, p12, rfl, ?_, hc, hu, k0, rfl⟩ ?_ ?_
  · show FrW K H W x l d q cs n he lg ((pthZ z w).take (0 + 1)) S
    unfold pthZ
    rw [List.take_succ_cons, List.take_zero]
    exact h
  · rintro i σ W1 hi ⟨c, u, kw, xc, xu, p10, p11, p12, rfl, hW, hc, hu, kw0, inv⟩
    obtain ⟨p, hp⟩ : ∃ p : Nat, w - 1 - (i : Int) = p := ⟨(w - 1 - (i : Int)).toNat, by omega⟩
    have e1 : w.toNat - i = p + 1 := by omega
    have e2 : w.toNat - (i + 1) = p := by omega
    have lt : ((pthZ z w).take (1 + i)).length ≤ 2000 := by rw [List.length_take]; omega
    have tk := pthZ_take (z := z) (w := w) (i := i) (by omega)
    rw [hp] at tk
    rw [e1] at inv
    rw [hp]
    show t_first_rows_b1 K E _ [some (.ref x), some (.str z), some (.int k), some (.ref rb), some (.bl top), some (.int w), some (.ref xc), some (.ref q), some (.ref xu), some (.int kw), some (.int (p : Int)), p11, p12] W1
    refine fr_b1 kn hn hW hwz (by omega) (by rw [List.length_append]; omega) (by omega) hs hc hu (fun h1 xa W' p11 p12 F' hc' ha' => ?_) (fun h1 xo xa W' p11 p12 F' ho' ha' => ?_) (by omega)
    · rw [fsR_succ] at inv
      rw [if_pos h1] at inv
      exact ⟨_, _, kw, xc, xa, _, _, _, rfl, by rw [tk]; exact F', hc', ha', kw0, by rw [e2]; exact inv⟩
    · rw [fsR_succ] at inv
      rw [if_neg h1] at inv
      by_cases h2 : kw - cntF (fun r => rAnd (u r) (btF (bitH he z) w.toNat top p r)) n.toNat = 0
      · rw [if_pos h2]
        rw [if_pos h2] at inv
        rw [h2]
        exact ⟨fin ⟨_, _, 0, i + 1⟩ xo xa W' _ _ _ inv.symm (by rw [tk]; exact F') ho' ha' (Int.le_refl _)⟩
      · rw [if_neg h2]
        rw [if_neg h2] at inv
        exact ⟨_, _, _, xo, xa, _, _, _, rfl, by rw [tk]; exact F', ho', ha', by omega, by rw [e2]; exact inv⟩
  · rintro σ W1 ⟨c, u, kw, xc, xu, p10, p11, p12, rfl, hW, hc, hu, kw0, inv⟩
    have e0 : (w - 1 - -1).toNat = w.toNat := by congr 1; omega
    rw [e0] at hW inv
    rw [Nat.sub_self] at inv
    exact ⟨fin ⟨c, u, kw, w.toNat⟩ xc xu W1 _ _ _ inv.symm hW hc hu (Int.le_of_lt kw0)⟩
theorem cnt_any {f : Int → Bool} : ∀ m : Nat, 0 < cntF f m ↔ ∃ j : Nat, j < m ∧ f (j : Int) = true
  | 0 => ⟨fun h => absurd h (Int.lt_irrefl 0), fun ⟨_, h, _⟩ => absurd h (Nat.not_lt_zero _)⟩
  | m + 1 => by
    have ih := cnt_any (f := f) m
    have hb := cnt_bd f m
    show 0 < cntF f m + (if f (m : Int) = true then 1 else 0) ↔ _
    constructor
    · intro h
      by_cases hf : f (m : Int) = true
      · exact ⟨m, by omega, hf⟩
      · rw [if_neg hf] at h
        obtain ⟨j, h1, h2⟩ := ih.mp (by omega)
        exact ⟨j, by omega, h2⟩
    · rintro ⟨j, h1, h2⟩
      by_cases hj : j = m
      · subst hj; rw [if_pos h2]; omega
      · have := ih.mpr ⟨j, by omega, h2⟩
        split <;> omega
theorem bs_first0 {b : Addr} {R : Int → Bool} {n : Int} {Q' : Bool → Hp → Prop} (hR : Bs K W b n R S) (q' : Q' (decide (0 < cntF R n.toNat)) W) : IsO K W "Bitmap" b (sp_Bitmapdd_booldd K [.ref b] W (isB Q') E) := by
  obtain ⟨dx, vs, sl⟩ := hR.slt
  obtain ⟨es, h1, h2, h3⟩ := hR
  refine .of sl ⟨b, n, es, rfl, h1, ?_⟩
  show Q' (decide (es ≠ [])) W
  have : decide (es ≠ []) = decide (0 < cntF R n.toNat) := decide_eq_decide.mpr <| (ends_any h1.2.2.1).trans <| by
    rw [cnt_any]
    constructor
    · rintro ⟨r, r0, r1, hr⟩
      refine ⟨r.toNat, by omega, ?_⟩
      rw [Int.toNat_of_nonneg r0, ← h3 r r0 r1]
      exact hr
    · rintro ⟨j, hj, hr⟩
      exact ⟨(j : Int), by omega, by omega, by rw [h3 _ (by omega) (by omega)]; exact hr⟩
  rw [this]
  exact q'
theorem fr_4 {rb : Addr} (kn : Kn S) (hn : n ≤ 10 ^ 18) (hO : StO K W x l d cs n he lg) (e0 : Same H W) (hwz : (z, w) ∈ cs) (w0 : 1 ≤ w) (w1 : w ≤ 1000) (ll : lg.length ≤ 50000) (hs : ∀ c, ∀ e ∈ he c, e ∈ S) (hR : Bs K W rb n fR S) (k0 : 0 ≤ k)
    (g : ∀ (t c u : Addr) (tl : List V) (H' : Hp), SameX l H H' → StO K H' x l d cs n he (lg ++ (pthZ z w).take (frH n fR he z w top k).2) → SqT K H' t [.ref c, .ref u] → Bx K H' c n (frH n fR he z w top k).1 (3 * S.length + 10) → SqT K H' u tl → Cols K H' tl ((pthZ z w).take (frH n fR he z w top k).2) → Q (.ref t) H') :
    t_first_rows_4 K E { nx := fun _ H' => Q .non H', rt := Q } [some (.ref x), some (.str z), some (.int k), some (.ref rb), some (.bl top), some (.int w), none, none, none, none, none, none, none] W := by
  obtain ⟨sf, n0, hw, lc, dx, s, tl, hx, hS, hH, hl, hC⟩ := id hO
  have lk := kn.len
  walk_at "gx"
  refine Atr.df sf hx rfl ?_
  refine ⟨n, rfl, fun _ xc W1 e1 _ hc => ?_, fun nb => absurd n0 (by omega)⟩
  have hcS : Bs K W1 xc n (fun _ => false) S := ⟨[], hc, (fun _ z => nomatch z), fun row _ _ => rfl⟩
  have hR1 := hR.same e1
  have e01 := e0.trans e1
  have mid : k ≠ 0 → cntF fR n.toNat ≠ 0 → stop (t_first_rows_6 K E) { nx := fun _ H' => Q .non H', rt := Q } [some (.ref x), some (.str z), some (.int k), some (.ref rb), some (.bl top), some (.int w), some (.ref xc), none, none, none, none, none, none] W1 := by
    intro hk hf
    refine ⟨?_⟩
    walk_at "gx"
    refine ⟨fun t W2 e2 ht => ?_⟩
    refine Need.mk (by rw [sizeLine_eq]; show 1 ≤ 16777216; decide) ⟨fun q nq => ?_⟩
    have e3 := same_new (o := .lst [V.ref t]) nq
    have hq : upd W2 q (.lst [V.ref t]) q = some (.lst [V.ref t]) := upd_same
    generalize upd W2 q (.lst [V.ref t]) = W3 at *
    have e03 := (e01.trans e2).trans e3
    have e13 := (e1.trans e2).trans e3
    have nqH : H q = none := Same.dm (e01.trans e2) q nq
    have ql : q ≠ l := fun y => by subst y; rw [(e1.trans e2) _ _ hl] at nq; cases nq
    have F3 : FrQ K H W3 x l d q cs n he lg [] [(z, -1)] S := ⟨Same.x e03, by rw [List.append_nil]; exact hO.same e13, nqH, ql, _, hq, .cons ⟨t, rfl, Same.tup e3 ht⟩ .nil⟩
    refine ⟨?_⟩
    unfold t_first_rows_7
    walk_at "sp"
    refine fr_fetch (p := -1) F3 hwz (by omega) (by omega) (by rw [List.append_nil]; omega) hs fun b W4 e4 e04 o4 hq4 hb4 => ?_
    obtain ⟨tl3, hl3⟩ := F3.o.log
    have hR4 := (hR.same e13).x e4 hl3
    have hc4 := ((hcS.same e2).same e3).x e4 hl3
    refine bs_and kn hR4 hb4 fun xu W5 e5 _ hu5 => ?_
    have F5 : FrW K H W5 x l d q cs n he lg [(z, -1)] S := FrW.same ⟨e04, by rw [List.append_nil] at o4; exact o4, nqH, ql, hq4⟩ e5
    refine ⟨?_⟩
    unfold t_first_rows_8
    walk_at "sp"
    refine bs_ones2 kn hu5 hn fun W6 e6 => ?_
    have F6 := F5.same e6
    have hu6 := hu5.same e6
    have hc6 := (hc4.same e5).same e6
    refine ifd (fun h1 => ?_) (fun h1 => ?_)
    · have ef : frH n fR he z w top k = (fun r => rAnd (fR r) (inB (he (z, -1)) r), 1) := by
        unfold frH frE
        rw [if_neg (by rintro (h | h); exact hk h; exact hf h), if_pos h1]
      rw [ef] at g
      obtain ⟨tl6, hq6, hC6⟩ := F6.hq
      walk_at "gx"
      refine ⟨fun u' W7 e7 hu' => ?_⟩
      refine Need.mk (by rw [sizeLine_eq]; show 2 ≤ 16777216; decide) ⟨fun t' W8 e8 ht' => ?_⟩
      have e78 := e7.trans e8
      exact g t' xu u' tl6 W8 (F6.e.then e78) (F6.o.same e78) ht' ((hu6.same e78).bx.mono (by omega)) (Same.tup e8 hu') (hC6.same e78)
    · have ef : frH n fR he z w top k = (fun r => rOr ((fsR n.toNat (btF (bitH he z) w.toNat top) w.toNat (fun _ => false) (fun r => rAnd (fR r) (inB (he (z, -1)) r)) k 0).c r) (fstK (fsR n.toNat (btF (bitH he z) w.toNat top) w.toNat (fun _ => false) (fun r => rAnd (fR r) (inB (he (z, -1)) r)) k 0).u (fsR n.toNat (btF (bitH he z) w.toNat top) w.toNat (fun _ => false) (fun r => rAnd (fR r) (inB (he (z, -1)) r)) k 0).k r), 1 + (fsR n.toNat (btF (bitH he z) w.toNat top) w.toNat (fun _ => false) (fun r => rAnd (fR r) (inB (he (z, -1)) r)) k 0).m) := by
        unfold frH frE
        rw [if_neg (by rintro (h | h); exact hk h; exact hf h), if_neg h1]
      rw [ef] at g
      refine ⟨?_⟩
      unfold t_first_rows_9
      walk_at "sp"
      refine ⟨?_⟩
      exact fr_10 kn hn F6 hwz w0 w1 ll hs hc6 hu6 (by omega) g
  have none0 : (k = 0 ∨ cntF fR n.toNat = 0) → tRet (dTup K (tCons (dVar 6) (tCons (dTup K (tNil)) (tNil)))) { nx := fun _ H' => Q .non H', rt := Q } [some (.ref x), some (.str z), some (.int k), some (.ref rb), some (.bl top), some (.int w), some (.ref xc), none, none, none, none, none, none] W1 := by
    intro h
    have ef : frH n fR he z w top k = (fun _ => false, 0) := by
      unfold frH frE
      rw [if_pos h]
    rw [ef] at g
    walk_at "gx"
    refine ⟨fun u' W7 e7 hu' => ?_⟩
    refine Need.mk (by rw [sizeLine_eq]; show 2 ≤ 16777216; decide) ⟨fun t' W8 e8 ht' => ?_⟩
    have e78 := e7.trans e8
    exact g t' xc u' [] W8 (Same.x (e01.trans e78)) (by rw [List.take_zero, List.append_nil]; exact hO.same (e1.trans e78)) ht' ((hcS.same e78).bx.mono (by omega)) (Same.tup e8 hu') (by rw [List.take_zero]; exact .nil)
  refine ⟨?_⟩
  unfold t_first_rows_5
  walk_at "sp"
  refine ifd (fun h0 => ?_) (fun h0 => ?_)
  · exact none0 (.inl h0)
  · refine bs_first0 hR1 ?_
    by_cases hf : 0 < cntF fR n.toNat
    · rw [decide_eq_true hf]
      exact mid h0 (by omega)
    · rw [decide_eq_false hf]
      exact none0 (.inr (by have := (cnt_bd fR n.toNat).1; omega))
end
theorem pure_first_rows {K : Frag} (vs : List V) (H : Hp) (Q : VK) (E : XK) (h : sp_first_rows K vs H Q E) : t_first_rows K E { nx := fun _ H' => Q .non H', rt := Q } (start ["store", "name", "k", "rows", "largest", "width", "chosen", "used", "undecided", "wanted", "place", "bitmap", "ahead"] vs) H := by
  obtain ⟨x, l, d, cs, n, he, lg, z, k, vr, top, mo, fR, S, rfl, hO, ll, hn, kn, hs, hvr, badC, badS, badK, good⟩ := h
  obtain ⟨sf, n0, hw, lc, dx, s, tl, hx, hS, hH, hl, hC⟩ := id hO
  obtain ⟨scf, gc, _, dxs, us, yss, hsx, _⟩ := id hS
  have lk := kn.len
  walk_at "gx"
  refine Atr.df sf hx rfl ?_
  refine IsD.of hsx ?_
  refine ⟨s, cs, z, rfl, hS, fun w hwz => ?_, badC⟩
  have w0 := (gc.2 _ hwz).2
  have w1 := hw _ hwz
  have rest : ∀ (rb : Addr) (W : Hp), Same H W → Bs K W rb mo fR S → stop (t_first_rows_2 K E) { nx := fun _ H' => Q .non H', rt := Q } [some (.ref x), some (.str z), some (.int k), some (.ref rb), some (.bl top), some (.int w), none, none, none, none, none, none, none] W := by
    intro rb W e hR
    refine ⟨?_⟩
    have hxW := e _ _ hx
    walk_at "gx"
    refine bs_size hR ?_
    refine Atr.df sf hxW rfl ?_
    refine ifn (fun hm => ?_) (fun hm => ?_)
    · exact fun xf => badS w hwz (fun y => hm y) xf W e
    have hm : mo = n := hm
    subst hm
    refine ⟨?_⟩
    walk_at "gx"
    refine ifd (fun hk => ?_) (fun hk => ?_)
    · exact fun xf => ⟨fun dd nd => badK w hwz rfl hk xf W dd e nd⟩
    refine ⟨?_⟩
    exact fr_4 kn hn (hO.same e) e hwz w0 w1 ll hs hR (by omega) (good w hwz rfl (by omega))
  walk_at "gx"
  rcases hvr with ⟨rfl, rfl, rfl⟩ | ⟨rb, rfl, hR⟩
  · refine ⟨rfl, ?_⟩
    walk_at "gx"
    refine Atr.df sf hx rfl ?_
    refine ⟨_, rfl, fun _ rb W e _ hb => ?_, fun nb => absurd n0 (by omega)⟩
    refine rest rb W e ⟨_, hb, fun e he => ?_, fun row r0 r1 => ?_⟩
    · rcases turned_memS he with h | h
      · rw [h]; exact kn.zero
      · cases h
    · have hE : Ends mo [] := ⟨.nil, fun _ z => nomatch z⟩
      rw [turned_in hE r0 r1]; rfl
  · refine ⟨rfl, ?_⟩
    exact rest rb H (Same.refl _) hR
end S
namespace S
open PySem PySem.Spec PyProof.Rows L2
def t__law_bitmap_1 (K : Frag) (E : XK) : TS :=
    tRet (dGiv (CF K "Bitmap" ["ends", "size"]) (dMake K "Bitmap" (sp_Bitmapdd_initdd K) (EW E) (tCons (dVar 1) (tCons (dVar 2) (tNil)))))
def t__law_bitmap (K : Frag) (E : XK) : TS :=
    tSeq (tAsg (dLc (iRng (tCons (dVar 1) (tNil))) (gName 3) (dCmpT (oNe K) (tOp oAnd (tOp oShr (dVar 0) (dVar 3)) (tC (.int 1))) (tOp oAnd (tOp oShr (tOp oMulA (tC (.int 2)) (dVar 0)) (dVar 3)) (tC (.int 1)))) (dVar 3) [3]) (gName 2))
    (stop (t__law_bitmap_1 K E))
end S
-- fn: _law_bitmap
-- law: k44
-- deps: M46 Lrf Bitmap_init
namespace S
open PySem PySem.Spec PyProof.Rows L2
def sp__law_bitmap (K : Frag) : Sp := fun vs H Q _ => ∃ (m n : Nat), vs = [.int m, .int n] ∧ n ≤ 10 ∧ ∀ x H', Same H H' → H x = none → Bm K H' x n (chgE m n) → Q (.ref x) H'
theorem pure__law_bitmap {K : Frag} (vs : List V) (H : Hp) (Q : VK) (E : XK) (h : sp__law_bitmap K vs H Q E) : t__law_bitmap K E { nx := fun _ H' => Q .non H', rt := Q } (start ["_law_mask", "_law_size", "_law_ends", "_law_row"] vs) H := by
  obtain ⟨m, n, rfl, ln, q⟩ := h
  walk_at "gx"
  refine lc_rngF (m := n) (fun j => m.testBit j != preN m j) (fun j => (j : Int)) (by rw [sizeLine_eq]; omega) ?_ ?_
  · intro j H2 A B hj e hA hB
    refine ⟨rfl, ?_⟩
    walk_at "gx"
    show (if (!decide (Builtin.bitAnd ((m : Int) / 2 ^ ((j : Nat) : Int).toNat) 1 = Builtin.bitAnd ((2 * (m : Int)) / 2 ^ ((j : Nat) : Int).toNat) 1)) = true then A (.int j) H2 else B H2)
    have e2 : (2 * (m : Int)) = ((2 * m : Nat) : Int) := by omega
    rw [e2, bit_val, bit_val, bit_twice]
    have e3 : bitN m (j : Int) = m.testBit j := rfl
    rw [e3]
    cases h1 : m.testBit j <;> cases h2 : preN m j <;> rw [h1, h2] at hA hB <;> first
      | exact hA rfl
      | exact hB rfl
  · intro D H1 nD hD e
    walk_at "gx"
    refine fun cf => ?_
    refine mk_bitmap (n := n) (es := chgE m n) cf (.inl (SqL.of hD)) (fun _ _ x H2 e2 nx hx => ?_) (fun nb => absurd ⟨by omega, chgE_ends m n⟩ nb)
    exact q x H2 (e.trans e2) (same_none e nx) hx
end S
namespace S
open PySem PySem.Spec PyProof.Rows L2
def t__law_mask_store_b1 (K : Frag) (E : XK) : TS :=
    tAsg (dCall (sp__law_bitmap K) (EW E) (tCons (tOp (oIxD K) (dVar 3) (dVar 5)) (tCons (dVar 2) (tNil)))) (gSub (dVar 4) (tOp (oIxD K) (dVar 1) (dVar 5)) oSetD)
def t__law_mask_store_2 (K : Frag) (E : XK) : TS :=
    tRet (dGiv (DF K "Store" [] ["schema", "size", "held", "log"]) (dMake K "Store" (sp_Storedd_initdd K) (EW E) (tCons (dGiv (DF K "Schema" [] ["columns"]) (dMake K "Schema" (sp_Schemadd_initdd K) (EW E) (tCons (dVar 0) (tNil)))) (tCons (dVar 2) (tCons (dVar 4) (tNil))))))
def t__law_mask_store_1 (K : Frag) (E : XK) : TS :=
    tSeq (dFor (iRng (tCons (tCB (cLen K) (tCons (dVar 1) (tNil))) (tNil))) (gName 5) (t__law_mask_store_b1 K E))
    (stop (t__law_mask_store_2 K E))
def t__law_mask_store (K : Frag) (E : XK) : TS :=
    tSeq (tAsg (dNewT) (gName 4))
    (stop (t__law_mask_store_1 K E))
end S
-- fn: _law_mask_store
-- law: k66
-- dict: _law_held
-- dT: _law_held
-- tupK: yes
-- deps: Store_init Schema_init E47 _law_bitmap_k44 Lri
namespace S
open PySem PySem.Spec PyProof.Rows L2
/-- the ends of the slices by their masks -/
def heM (cs : List Col) (ms : List Nat) (n : Nat) (c : Col) : List Int := chgE (mkL (slicesOf cs) ms c) n
theorem heM_in {cs : List Col} {ms : List Nat} {n : Nat} {c : Col} {row : Int} (r0 : 0 ≤ row) (r1 : row < n) : inB (heM cs ms n c) row = (mkL (slicesOf cs) ms c).testBit row.toNat := by
  obtain ⟨k, rfl⟩ : ∃ k : Nat, row = k := ⟨row.toNat, by omega⟩
  unfold heM
  rw [chgE_in, if_pos (by omega)]; rfl
def sp__law_mask_store (K : Frag) : Sp := fun vs H Q _ => ∃ (p z m : Addr) (n : Nat) (ys zs : List V) (cs : List Col) (ms : List Nat), vs = [.ref p, .ref z, .int n, .ref m] ∧ H p = some (.lst ys) ∧ Cols K H ys cs ∧ goodC cs ∧ cs.length ≤ 3 ∧ (∀ c ∈ cs, c.2 ≤ 1000) ∧ H z = some (.lst zs) ∧ ColsK H zs (slicesOf cs) ∧ n ≤ 10 ∧ H m = some (.lst (ms.map fun x : Nat => V.int x)) ∧ ms.length = (slicesOf cs).length ∧
  ∀ (x l d : Addr) H', Same H H' → H x = none → H l = none → StO K H' x l d cs n (heM cs ms n) [] → Q (.ref x) H'
theorem pure__law_mask_store {K : Frag} (vs : List V) (H : Hp) (Q : VK) (E : XK) (h : sp__law_mask_store K vs H Q E) : t__law_mask_store K E { nx := fun _ H' => Q .non H', rt := Q } (start ["_law_columns_here", "_law_slices_here", "_law_size", "_law_masks", "_law_held", "_law_k"] vs) H := by
  obtain ⟨p, z, mm, n, ys, zs, cs, ms, rfl, hp, hC, gc, lc, wc, hz, hZ, ln, hm, lm, good⟩ := h
  have nds := slicesOf_nodup gc.1
  have lz := (Paired.length hZ).symm
  have lsl := slicesOf_len cs wc
  walk_at "gx"
  refine ⟨fun h nh => ?_⟩
  have f3 := same_new (o := .dT []) nh
  have hh3 : upd H h (.dT []) h = some (.dT []) := upd_same
  generalize upd H h (.dT []) = W3 at *
  have hz3 := f3 _ _ hz
  walk_at "gx"
  show LoopR _ _ _ _ (Itr 0 ((zs.length : Int)).toNat) W3
  refine for_rng (fun j σ W' => ∃ (kv : List (List Key × V)) (x5 : Option V), σ = [some (.ref p), some (.ref z), some (.int n), some (.ref mm), some (.ref h), x5] ∧ Same H W' ∧ W' h = some (.dT kv) ∧ kv.length ≤ j ∧ ∀ (i : Nat) (c : Col), i < j → (slicesOf cs)[i]? = some c → ∃ bb, valV kv (keyC c) = some (.ref bb) ∧ Bm K W' bb n (heM cs ms n c)) ⟨[], none, rfl, f3, hh3, Nat.le_refl _, fun i c hi => absurd hi (Nat.not_lt_zero _)⟩ ?_ ?_
  · rintro j σ W6 hj ⟨kv, x5, rfl, f6, hh6, lkv, hv⟩
    have hj : (j : Int) < (zs.length : Int) := hj
    have jl : j < (slicesOf cs).length := by omega
    obtain ⟨c, hc⟩ : ∃ c, (slicesOf cs)[j]? = some c := ⟨_, List.getElem?_eq_getElem jl⟩
    obtain ⟨m0, hm0⟩ : ∃ m0, ms[j]? = some m0 := ⟨_, List.getElem?_eq_getElem (by omega)⟩
    have ehe : heM cs ms n c = chgE m0 n := by unfold heM; rw [mkL_at nds hc hm0]
    obtain ⟨y, hy, pa, rfl, hpa⟩ := prK_at47 hZ hc
    have hz6 := f6 _ _ hz
    have hm6 := f6 _ _ hm
    have hpa6 := f6 _ _ hpa
    have a1 : atI (ms.map fun x : Nat => V.int x) (j : Int) = some (.int (m0 : Nat)) := atI_nat (by rw [List.getElem?_map, hm0]; rfl)
    walk_at "gx"
    refine ⟨m0, n, rfl, ln, fun x W7 f7 nx hx => ?_⟩
    have hh7 := f7 _ _ hh6
    have hz7 := f7 _ _ hz6
    walk_at "gx"
    refine S.At.of (v := .ref pa) (atI_nat hy) ?_
    refine StD.t (ks := keyC c) hh7 (f7 _ _ hpa6) (by rw [sizeLine_eq]; omega) ?_
    have ex : SameX h W7 (upd W7 h (.dT (putK kv (keyC c) (.ref x)))) := SameX.upd
    refine ⟨putK kv (keyC c) (.ref x), _, rfl, Same.mut (f6.trans f7) nh, upd_same, by have := length_putK kv (keyC c) (.ref x); omega, fun i c' hi hc' => ?_⟩
    rw [valV_put]
    by_cases ij : i = j
    · subst ij
      rw [hc] at hc'; cases hc'
      refine ⟨x, by rw [if_pos rfl], ?_⟩
      rw [ehe]
      exact hx.xd ex hh7
    · have ne : ¬ keyC c' = keyC c := fun z => by
        have := keyC_inj z
        subst this
        obtain ⟨l1, g1⟩ := List.getElem?_eq_some_iff.mp hc
        obtain ⟨l2, g2⟩ := List.getElem?_eq_some_iff.mp hc'
        have pw := List.pairwise_iff_getElem.mp nds
        rcases Nat.lt_or_gt_of_ne ij with h | h
        · exact pw i j l2 l1 h (by rw [g1, g2])
        · exact pw j i l1 l2 h (by rw [g1, g2])
      rw [if_neg ne]
      obtain ⟨b', h1, h2⟩ := hv i c' (by omega) hc'
      exact ⟨b', h1, (h2.same f7).xd ex hh7⟩
  rintro σ W6 ⟨kv, x5, rfl, f6, hh6, lkv, hv⟩
  have hvals : ∀ c ∈ slicesOf cs, ∃ bb, valV kv (keyC c) = some (.ref bb) ∧ Bm K W6 bb n (heM cs ms n c) := fun c hc => by
    obtain ⟨i, hi⟩ := List.mem_iff_getElem?.mp hc
    have il := (List.getElem?_eq_some_iff.mp hi).1
    exact hv i c (by show i < ((zs.length : Int) - 0).toNat; omega) hi
  have hp6 := f6 _ _ hp
  have hC6 := hC.same f6
  walk_at "gx"
  refine fun sf => ?_
  refine fun scf => ?_
  refine mk_schema scf (.inl (SqL.of hp6)) hC6 (by omega) (fun c hc => by have := (gc.2 c hc).1.2.2; omega) (fun _ s W9 f9 ns hs9 => ?_) (fun nb => absurd gc nb)
  have hh9 := f9 _ _ hh6
  dsimp only [tCons, tNil]
  have nn : ∀ {c : Addr}, W9 c = none → H c = none := fun {c} h => by
    cases z : H c with
    | none => rfl
    | some o => rw [(f6.trans f9) _ _ z] at h; cases h
  refine mk_store (mo := fun _ => (n : Int)) (he := heM cs ms n) sf hs9 wc (by omega) hh9 (fun c hc v hv => ?_) (fun hn => absurd hn (by omega)) fun _ => ⟨fun hg x l d W10 f10 nx10 nl10 nd10 hO => ?_, fun A c BB eA hA => ?_⟩
  · obtain ⟨bb, h1, h2⟩ := hvals c hc
    rw [h1] at hv
    cases hv
    exact ⟨bb, rfl, h2.same f9⟩
  · exact good x l d W10 ((f6.trans f9).trans f10) (nn nx10) (nn nl10) hO
  · have hc : c ∈ slicesOf cs := by rw [eA]; simp
    obtain ⟨bb, h1, h2⟩ := hvals c hc
    exact ⟨(fun hn => by rw [h1] at hn; cases hn), fun _ hn => absurd rfl hn⟩
end S
namespace S
open PySem PySem.Spec PyProof.Rows L2
end S
-- fn: _law_columns
-- law: k41
-- deps: _law_names Fstay Cols Held
namespace S
open PySem PySem.Spec PyProof.Rows L2
end S
-- deps: Bd Rds
/-! ## what stands ahead of a store: columns, slices, recipe, order, diagram -/
namespace S
open PySem PySem.Spec PyProof.Rows L2
structure Bq (K : Frag) (B Z : Hp) (a st p z r fd : Addr) (ys zs : List V) (cs os : List Col) (xs : List Addr) (ss : List Stp) (q : Qs) : Prop where
  c : Ctx K Z a st
  hp : Z p = some (.lst ys)
  hC : Cols K Z ys cs
  hz : Z z = some (.lst zs)
  hZ : ColsK Z zs (slicesOf cs)
  hr : Z r = some (.lst (xs.map V.ref))
  hS : Paired (fun s x => StA K B Z x s) ss xs
  hd : DgA K Z fd os (qT cs os q)
  pm : os.Perm (slicesOf cs)
  so : OsOk os
  full : (qT cs os q).full os.length
  an : ∀ (he : Col → List Int) (row : Int), (ndA (qT cs os q) (hbE (esO he os)) os.length row).val = ans (rowS he cs row) q
  run : ∀ bs : List Bool, bs.length = os.length → (qT cs os q).run bs = ans (rowB cs os bs) q
  ok : okR ss 0 = some 1
  lss : ss.length ≤ 1000
  lf : ∀ s ∈ ss, s.isLeaf = true → s.leaf (cs.map fun c => c.1)
  rq : runQ lfQ ss [] = [q]
  g : goodC cs
  lc : cs.length ≤ 3
  w : ∀ c ∈ cs, c.2 ≤ 6
  lsl : (slicesOf cs).length ≤ 10
  pst : p ≠ st
  zst : z ≠ st
  rst : r ≠ st
  Bst : ∃ o, B st = some o
section
variable {K : Frag} {B Z W : Hp} {a st p z r fd : Addr} {ys zs : List V} {cs os : List Col} {xs : List Addr} {ss : List Stp} {q : Qs}
theorem Bq.x (b : Bq K B Z a st p z r fd ys zs cs os xs ss q) (e : SameX st Z W) (c : Ctx K W a st) : Bq K B W a st p z r fd ys zs cs os xs ss q := by
  obtain ⟨l0, hst⟩ := ctx_st b.c
  obtain ⟨o, ho⟩ := b.Bst
  exact ⟨c, e _ _ b.hp b.pst, b.hC.x e hst, e _ _ b.hz b.zst, b.hZ.x e hst (fun _ z => by cases z), e _ _ b.hr b.rst, Paired.mapP b.hS fun _ _ h => h.x e hst ho, b.hd.x e hst, b.pm, b.so, b.full, b.an, b.run, b.ok, b.lss, b.lf, b.rq, b.g, b.lc, b.w, b.lsl, b.pst, b.zst, b.rst, b.Bst⟩
theorem Bq.same (b : Bq K B Z a st p z r fd ys zs cs os xs ss q) (e : Same Z W) : Bq K B W a st p z r fd ys zs cs os xs ss q := b.x (Same.x e) (b.c.same e)
theorem Bq.lo (b : Bq K B Z a st p z r fd ys zs cs os xs ss q) : os.length ≤ 10 := by rw [b.pm.length_eq]; exact b.lsl
end
end S
namespace S
open PySem PySem.Spec PyProof.Rows L2
end S
-- fn: part_diagram
-- law: k52
-- rec: part_diagram
-- ownD: BitAnd=Diagram BitOr=Diagram Invert=Diagram
-- meth: part.surely=Diagram
-- deps: Pdg
namespace S
open PySem PySem.Spec PyProof.Rows L2
end S
namespace S
open PySem PySem.Spec PyProof.Rows L2
end S
namespace S
open PySem PySem.Spec PyProof.Rows L2
end S
namespace S
open PySem PySem.Spec PyProof.Rows L2
end S
-- fn: AtMost.names Present.names HasBit.names
-- law: k48
-- dynself: names
-- deps: Nq Lcc
namespace S
open PySem PySem.Spec PyProof.Rows L2
end S
namespace S
open PySem PySem.Spec PyProof.Rows L2
end S
-- fn: Question.names
-- law: k48
-- dynself: names
-- dyn: names
-- setS: yes
-- deps: Nq Fstay
namespace S
open PySem PySem.Spec PyProof.Rows L2
end S
namespace S
open PySem PySem.Spec PyProof.Rows L2
end S
-- fn: Question.__init__
-- law: k39
-- deps: Qs
namespace S
open PySem PySem.Spec PyProof.Rows L2
end S
namespace S
open PySem PySem.Spec PyProof.Rows L2
end S
-- fn: Both.__init__
-- law: k39
-- deps: Question_init
namespace S
open PySem PySem.Spec PyProof.Rows L2
end S
namespace S
open PySem PySem.Spec PyProof.Rows L2
end S
-- fn: Either.__init__
-- law: k40
-- deps: Question_init
namespace S
open PySem PySem.Spec PyProof.Rows L2
end S
namespace S
open PySem PySem.Spec PyProof.Rows L2
end S
-- fn: Opposite.__init__
-- law: k40
-- deps: Question_init
namespace S
open PySem PySem.Spec PyProof.Rows L2
end S
namespace S
open PySem PySem.Spec PyProof.Rows L2
end S
-- fn: Surely.__init__
-- law: k40
-- deps: Question_init
namespace S
open PySem PySem.Spec PyProof.Rows L2
end S
namespace S
open PySem PySem.Spec PyProof.Rows L2
end S
namespace S
open PySem PySem.Spec PyProof.Rows L2
end S
namespace S
open PySem PySem.Spec PyProof.Rows L2
end S
namespace S
open PySem PySem.Spec PyProof.Rows L2
end S
-- fn: Question.surely Question.__and__ Question.__or__ Question.__invert__
-- law: k40
-- deps: Both_init Either_init Opposite_init Surely_init
namespace S
open PySem PySem.Spec PyProof.Rows L2
end S
namespace S
open PySem PySem.Spec PyProof.Rows L2
end S
-- fn: Present.__init__
-- law: k40
-- deps: Question_init
namespace S
open PySem PySem.Spec PyProof.Rows L2
end S
namespace S
open PySem PySem.Spec PyProof.Rows L2
end S
-- fn: HasBit.__init__
-- law: k40
-- deps: Question_init
namespace S
open PySem PySem.Spec PyProof.Rows L2
end S
namespace S
open PySem PySem.Spec PyProof.Rows L2
end S
-- fn: AtMost.__init__
-- law: k39
-- deps: Question_init
namespace S
open PySem PySem.Spec PyProof.Rows L2
end S
-- deps: Fkey Fm2
namespace S
open PySem PySem.Spec PyProof.Rows L2
end S
namespace S
open PySem PySem.Spec PyProof.Rows L2
end S
-- fn: _law_question
-- law: k41
-- dict: _law_factors
-- dynS: __and__ __or__ __invert__ surely
-- deps: Rcp2 Question_ops Present_init HasBit_init AtMost_init Fkey2 Fstay LastV _law_some_pre
namespace S
open PySem PySem.Spec PyProof.Rows L2
section
variable {K : Frag} {H W : Hp} {st : Addr} {as : List Addr} {qs : List Qs}
end
end S
-- deps: _law_columns_m Bq part_diagram leaf_names Question_names _law_question Schema_init _law_slices_k43 _law_draw Fr Fstay D0 D1 CsT
/-! ## the beginning that many laws share -/
namespace S
open PySem PySem.Spec PyProof.Rows L2
section
variable {K : Frag} {B Z W : Hp} {a st p z r po fd : Addr} {ys zs os_ : List V} {cs os : List Col} {xs : List Addr} {ss : List Stp} {q : Qs}
end
end S
-- deps: Lay Cols
/-! ## the place of a pair in a list of pairs -/
namespace S
open PySem PySem.Spec PyProof.Rows L2
theorem eqv_col (c d : Col) : PyData.eqv (.tuple [.str c.1, .int c.2]) (.tuple [.str d.1, .int d.2]) = decide (c = d) := by
  have e : PyData.eqv (.list ([c].map PySem.W.Datum.toD)) (.list ([d].map PySem.W.Datum.toD)) = decide ([c] = [d]) := PySem.W.Datum.eqv [c] [d]
  have e2 : PyData.eqv (.list ([c].map PySem.W.Datum.toD)) (.list ([d].map PySem.W.Datum.toD)) = PyData.eqv (.tuple [.str c.1, .int c.2]) (.tuple [.str d.1, .int d.2]) := by
    show (PyData.eqv (.tuple [.str c.1, .int c.2]) (.tuple [.str d.1, .int d.2]) && true) = _
    rw [Bool.and_true]
  rw [← e2, e]
  exact decide_eq_decide.mpr ⟨fun z => by injection z, fun z => by rw [z]⟩
theorem shp_col {c : Col} (hs : PyData.strOk c.1 = true) : SeqAt.shaped (.tuple [.str c.1, .int c.2]) = true := by
  unfold SeqAt.shaped
  have e1 : PyData.canLay0 (.tuple [.str c.1, .int c.2]) = true := by
    show PyData.canLayAll0 [.str c.1, .int c.2] = true
    simp [PyData.canLayAll0, PyData.canLay0, hs]
  rw [e1]; rfl
theorem ixF_first {κ : Type} [DecidableEq κ] : ∀ {l : List κ} {k y : κ} {j : Nat}, j < ixF l k → l[j]? = some y → y ≠ k
  | [], _, _, _, _, h => by simp at h
  | x :: l, k, y, j, hj, h => by
    rw [ixF_cons] at hj
    by_cases e : x = k
    · rw [if_pos e] at hj; exact absurd hj (Nat.not_lt_zero _)
    · rw [if_neg e] at hj
      cases j with
      | zero =>
        rw [List.getElem?_cons_zero] at h
        cases h; exact e
      | succ j =>
        rw [List.getElem?_cons_succ] at h
        exact ixF_first (by omega) h
theorem idx_col {K : Frag} {H : Hp} {po a : Addr} {zs : List V} {os : List Col} {c : Col} {Q : VK} (h : SqL K H po zs) (hC : Cols K H zs os) (hc : SqT K H a [.str c.1, .int c.2]) (so : ∀ c ∈ os, PyData.strOk c.1 = true) (m : c ∈ os) (q : Q (.int (ixF os c : Nat)) H) : IdxT K (.ref po) [.ref a] H Q := by
  refine ⟨po, .ref a, .tuple [.str c.1, .int c.2], os.map PySem.W.Datum.toD, ixF os c, .tuple [.str c.1, .int c.2], rfl, rfl, .lst h (dp_cols hC), .tup hc (.cons (.str _) (.cons (.int _) .nil)), shp_cols so, shp_col (so c m), by rw [List.getElem?_map, ixF_get m]; rfl, by rw [eqv_col, decide_eq_true rfl], fun j z hj hz => ?_, q⟩
  rw [List.getElem?_map] at hz
  obtain ⟨d, hd, rfl⟩ := Option.map_eq_some_iff.mp hz
  show PyData.eqv (.tuple [.str d.1, .int d.2]) (.tuple [.str c.1, .int c.2]) = false
  rw [eqv_col]
  exact decide_eq_false (ixF_first hj hd)
end S
-- deps: Cols Idc
/-! ## a pair among pairs -/
namespace S
open PySem PySem.Spec PyProof.Rows L2
theorem any_col (c : Col) : ∀ os : List Col, ((os.map PySem.W.Datum.toD).any fun z => PyData.eqv z (.tuple [.str c.1, .int c.2])) = decide (c ∈ os)
  | [] => rfl
  | d :: os => by
    show (PyData.eqv (.tuple [.str d.1, .int d.2]) (.tuple [.str c.1, .int c.2]) || (os.map PySem.W.Datum.toD).any _) = _
    rw [any_col c os, eqv_col]
    by_cases h : d = c
    · subst h; simp
    · by_cases h2 : c ∈ os
      · simp [h2]
      · simp [h, h2, Ne.symm h]
theorem inU_col {K : Frag} {H : Hp} {a p : Addr} {ys : List V} {os : List Col} {c : Col} {k : Bool → Prop} (hc : SqT K H a [.str c.1, .int c.2]) (h : SqT K H p ys) (hC : Cols K H ys os) (sc : PyData.strOk c.1 = true) (so : ∀ c ∈ os, PyData.strOk c.1 = true) (q : k (decide (c ∈ os))) : InU K H (.ref a) (.ref p) k :=
  ⟨.tuple [.str c.1, .int c.2], os.map PySem.W.Datum.toD, .tup hc (.cons (.str _) (.cons (.int _) .nil)), .inr (.tup h (dp_cols hC)), shp_col sc, shp_cols so, by rw [any_col]; exact q⟩
end S
namespace S
open PySem PySem.Spec PyProof.Rows L2
end S
-- fn: _law_union
-- law: k67
-- inU: yes
-- deps: Ucol Rds Bq
namespace S
open PySem PySem.Spec PyProof.Rows L2
end S
namespace S
open PySem PySem.Spec PyProof.Rows L2
end S
-- fn: compared
-- law: k22
-- own: BitAnd=Bitmap BitOr=Bitmap Sub=Bitmap
-- deps: Column_uniform Cmp Column_at Bitmap_empty Cx
namespace S
open PySem PySem.Spec PyProof.Rows L2
section
variable {K : Frag} {E : XK} {Q : VK}
end
end S
namespace S
open PySem PySem.Spec PyProof.Rows L2
end S
-- fn: leaf_answer
-- law: k48
-- own: BitOr=Bitmap Invert=Bitmap Sub=Bitmap
-- dict: question.terms
-- deps: form_column Nq Compared Answer_ops Bitmap_empty Column_at Form_plus
namespace S
open PySem PySem.Spec PyProof.Rows L2
theorem AnA.congr {K : Frag} {H : Hp} {a : Addr} {n : Int} {S : List Int} {fR fY fN gR gY gN : Int → Bool} (h : AnA K H a n S fR fY fN) (e1 : ∀ r, 0 ≤ r → r < n → fR r = gR r) (e2 : ∀ r, 0 ≤ r → r < n → fY r = gY r) (e3 : ∀ r, 0 ≤ r → r < n → fN r = gN r) : AnA K H a n S gR gY gN := by
  obtain ⟨c, k, o, dx, r, y, z, h1, h2, h3, h4⟩ := h
  exact ⟨c, k, fun row r0 r1 => by rw [← e1 row r0 r1, ← e2 row r0 r1, ← e3 row r0 r1]; exact o row r0 r1, dx, r, y, z, h1, h2.congr e1, h3.congr e2, h4.congr e3⟩
end S
-- deps: Acg leaf_answer
/-! ## answers hang on the named values alone; questions of a recipe are small -/
namespace S
open PySem PySem.Spec PyProof.Rows L2
end S
namespace S
open PySem PySem.Spec PyProof.Rows L2
end S
-- fn: _law_leaf_truth
-- law: k42
-- dict: _law_row
-- deps: Stp Rcp2 Srt Rw2 Fstay
namespace S
open PySem PySem.Spec PyProof.Rows L2
end S
namespace S
open PySem PySem.Spec PyProof.Rows L2
end S
-- fn: _law_truth
-- law: k42
-- dict: _law_row
-- deps: _law_leaf_truth LastV Rcp2 Srt Fstay
namespace S
open PySem PySem.Spec PyProof.Rows L2
section
variable {K : Frag} {H W : Hp} {R : Row} {st : Addr} {as : List Addr} {qs : List Qs}
end
end S
namespace S
open PySem PySem.Spec PyProof.Rows L2
end S
-- fn: _law_changes
-- law: k48
-- deps: M46 Fstay D0 D1
namespace S
open PySem PySem.Spec PyProof.Rows L2
end S
namespace S
open PySem PySem.Spec PyProof.Rows L2
end S
-- fn: _law_is_bitmap
-- law: k43
-- deps: Bm isi_bm _law_is_number D1
namespace S
open PySem PySem.Spec PyProof.Rows L2
end S
-- deps: D0 D1
/-! ## comprehensions with a filter over a range, any items -/
namespace S
open PySem PySem.Spec PyProof.Rows L2
end S
namespace S
open PySem PySem.Spec PyProof.Rows L2
end S
-- fn: _law_holds
-- law: k61
-- deps: E47 K48m _law_truth _law_changes _law_is_bitmap_k43 _law_in Lp Answer_ops Lrv
namespace S
open PySem PySem.Spec PyProof.Rows L2
end S
namespace S
open PySem PySem.Spec PyProof.Rows L2
end S
-- fn: _law_code
-- law: k55
-- deps: Tbl
namespace S
open PySem PySem.Spec PyProof.Rows L2
end S
namespace S
open PySem PySem.Spec PyProof.Rows L2
end S
-- fn: _law_answered
-- law: k64
-- in: Bitmap
-- deps: _law_holds_k61 _law_code Bitmap_contains
namespace S
open PySem PySem.Spec PyProof.Rows L2
end S
namespace S
open PySem PySem.Spec PyProof.Rows L2
end S
-- fn: _law_told_code
-- law: k66
-- in: Bitmap
-- deps: _law_answered_k64
namespace S
open PySem PySem.Spec PyProof.Rows L2
end S
namespace S
open PySem PySem.Spec PyProof.Rows L2
end S
-- fn: _law_each_row
-- law: k66
-- deps: _law_told_code _law_mask_store
namespace S
open PySem PySem.Spec PyProof.Rows L2
end S
-- deps: Walk_reading D1 Bitmap_ops
/-! ## reasons as data -/
namespace S
open PySem PySem.Spec PyProof.Rows L2
abbrev Rsn := Int × List Int × List Int
end S
-- deps: Rsn read_together
/-! ## two stores that are equal in the fetched slices -/
namespace S
open PySem PySem.Spec PyProof.Rows L2
section
variable {n : Int} {fR : Int → Bool} {t : BT} {es es' : Nat → List Int} {m : Nat}
variable (h : ∀ j, j < m → (rsF n t (hbE es) fR j).isSome = true → es j = es' j)
include h
end
end S
-- deps: Lpre _law_union _law_each_row Pss
/-! ## readings of one store again and again; unions of what they fetch -/
namespace S
open PySem PySem.Spec PyProof.Rows L2
theorem heM_sub {cs : List Col} {ms : List Nat} {n : Nat} (c : Col) : ∀ e ∈ heM cs ms n c, e ∈ (List.range n).map fun j : Nat => (j : Int) := fun e h => by
  have := chgE_mem h
  exact List.mem_map.mpr ⟨e.toNat, List.mem_range.mpr (by omega), by omega⟩
/-! ### used slices as filters -/
end S
-- deps: D0 D1
namespace S
open PySem PySem.Spec PyProof.Rows L2
/-- == of the same data -/
theorem eqd_refl {K : Frag} {H : Hp} {x y : V} {d : PyData} {k : Bool → Prop} (s : SeqAt.shaped d = true) (h : Dp K H x d) (h2 : Dp K H y d) (q : k true) : EqD K H x y k := ⟨d, d, h, h2, s, s, by
  have c : d.canLay0 = true := by
    unfold SeqAt.shaped at s
    exact (Bool.and_eq_true_iff.mp s).1
  rw [SeqAt.eqv_refl d c]; exact q⟩
end S
namespace S
open PySem PySem.Spec PyProof.Rows L2
def t_law_b1 (K : Frag) (E : XK) : TS :=
    tDrop (dML K mApp (dVar 6) (tCons (dTupK (tCons (tOp (oIx K) (dVar 2) (dVar 7)) (tCons (tOp (oIx K) (dLst (tCons (tC (.int 1)) (tCons (dVar 4) (tNil)))) (tCB cInt (tCons (tOp (oEq K) (dVar 7) (dVar 5)) (tNil)))) (tNil)))) (tNil)))
def t_law_b2_1 (K : Frag) (E : XK) : TS :=
    tDrop (dML K mApp (dVar 17) (tCons (dLc (iSeq K (dVar 16)) (gName 24) (tYes) (tOp oAnd (tOp oShr (dVar 19) (dVar 24)) (tC (.int 1))) [24]) (tNil)))
def t_law_b2 (K : Frag) (E : XK) : TS :=
    tSeq (tAsg (tOp (oIx K) (dVar 9) (dML K (mIdx K) (dVar 8) (tCons (dVar 18) (tNil)))) (gName 19))
    (stop (t_law_b2_1 K E))
def t_law_b3 (K : Frag) (E : XK) : TS :=
    dIfS (dCmpT (oInU K) (tOp (oIx K) (dVar 8) (dVar 7)) (tOp (oIx K) (dVar 15) (tC (.int 1)))) (tDrop (dML K mApp (dVar 21) (tCons (tOp (oIx K) (dVar 9) (dVar 7)) (tNil)))) (tDrop (dML K mApp (dVar 21) (tCons (dCall (sp__law_draw K) (EW E) (tCons (dVar 0) (tCons (dVar 1) (tCons (tOp oShl (tC (.int 1)) (dVar 3)) (tNil))))) (tNil))))
def t_law_27 (K : Frag) (E : XK) : TS :=
    tRet (dAndV (tOp (oEq K) (tOp (oIx K) (dVar 22) (tC (.int 1))) (tOp (oIx K) (dVar 15) (tC (.int 1)))) (dCall (sp__law_is_set K) (EW E) (tCons (tOp (oIx K) (dVar 22) (tC (.int 0))) (tCons (dVar 3) (tCons (dVar 20) (tNil))))))
def t_law_26 (K : Frag) (E : XK) : TS :=
    tSeq (tAsg (dCallK 3 2 (sp_first_rows K) (fun vs zs => vs ++ (zs)) (EW E) (tCons (dVar 14) (tCons (tOp (oIx K) (dVar 2) (dVar 5)) (tCons (dVar 11) (tNil)))) (tCons (dCall (sp__law_bitmap K) (EW E) (tCons (dVar 10) (tCons (dVar 3) (tNil)))) (tCons (dVar 12) (tNil)))) (gName 22))
    (stop (t_law_27 K E))
def t_law_25 (K : Frag) (E : XK) : TS :=
    tSeq (tAsg (dCall (sp__law_mask_store K) (EW E) (tCons (dVar 6) (tCons (dVar 8) (tCons (dVar 3) (tCons (dVar 21) (tNil)))))) (gName 14))
    (stop (t_law_26 K E))
def t_law_24 (K : Frag) (E : XK) : TS :=
    tSeq (dFor (iRng (tCons (tCB (cLen K) (tCons (dVar 8) (tNil))) (tNil))) (gName 7) (t_law_b3 K E))
    (stop (t_law_25 K E))
def t_law_23 (K : Frag) (E : XK) : TS :=
    tSeq (tAsg (dLst (tNil)) (gName 21))
    (stop (t_law_24 K E))
def t_law_22 (K : Frag) (E : XK) : TS :=
    tSeq (dIfS (dNot (dTest K (dCall (sp__law_is_set K) (EW E) (tCons (tOp (oIx K) (dVar 15) (tC (.int 0))) (tCons (dVar 3) (tCons (dVar 20) (tNil))))))) (tRet (tC (.bl false))) (tNext))
    (stop (t_law_23 K E))
def t_law_21 (K : Frag) (E : XK) : TS :=
    tSeq (tAsg (dCall (sp__law_choice K) (EW E) (tCons (dVar 17) (tCons (dVar 16) (tCons (dVar 11) (tCons (dVar 12) (tNil)))))) (gName 20))
    (stop (t_law_22 K E))
def t_law_20 (K : Frag) (E : XK) : TS :=
    tSeq (dIfS (dCmpT (oNe K) (tCB (cList K) (tCons (tOp (oIx K) (dVar 15) (tC (.int 1))) (tNil))) (tSl (oSl K) (dVar 13) (tNoPart) (dPart (dCall (sp__law_least K) (EW E) (tCons (dVar 17) (tCons (dVar 16) (tCons (dVar 11) (tCons (dVar 12) (tNil))))))))) (tRet (tC (.bl false))) (tNext))
    (stop (t_law_21 K E))
def t_law_19 (K : Frag) (E : XK) : TS :=
    tSeq (dFor (iSeq K (dVar 13)) (gName 18) (t_law_b2 K E))
    (stop (t_law_20 K E))
def t_law_18 (K : Frag) (E : XK) : TS :=
    tSeq (tAsg (dLst (tNil)) (gName 17))
    (stop (t_law_19 K E))
def t_law_17 (K : Frag) (E : XK) : TS :=
    tSeq (tAsg (dLc (iRng (tCons (dVar 3) (tNil))) (gName 24) (dCmpT (oEq K) (tOp oAnd (tOp oShr (dVar 10) (dVar 24)) (tC (.int 1))) (tC (.int 1))) (dVar 24) [24]) (gName 16))
    (stop (t_law_18 K E))
def t_law_16 (K : Frag) (E : XK) : TS :=
    tSeq (dIfS (dOr (dNot (dTest K (tCB (cIsi K) (tCons (dVar 15) (tCons (tC (.ty "tuple")) (tNil)))))) (dOr (dCmpT (oNe K) (tCB (cLen K) (tCons (dVar 15) (tNil))) (tC (.int 2))) (dNot (dTest K (tCB (cIsi K) (tCons (tOp (oIx K) (dVar 15) (tC (.int 1))) (tCons (tC (.ty "tuple")) (tNil)))))))) (tRet (tC (.bl false))) (tNext))
    (stop (t_law_17 K E))
def t_law_15 (K : Frag) (E : XK) : TS :=
    tSeq (tAsg (dCallK 3 2 (sp_first_rows K) (fun vs zs => vs ++ (zs)) (EW E) (tCons (dVar 14) (tCons (tOp (oIx K) (dVar 2) (dVar 5)) (tCons (dVar 11) (tNil)))) (tCons (dCall (sp__law_bitmap K) (EW E) (tCons (dVar 10) (tCons (dVar 3) (tNil)))) (tCons (dVar 12) (tNil)))) (gName 15))
    (stop (t_law_16 K E))
def t_law_14 (K : Frag) (E : XK) : TS :=
    tSeq (tAsg (dCall (sp__law_mask_store K) (EW E) (tCons (dVar 6) (tCons (dVar 8) (tCons (dVar 3) (tCons (dVar 9) (tNil)))))) (gName 14))
    (stop (t_law_15 K E))
def t_law_13 (K : Frag) (E : XK) : TS :=
    tSeq (tAsg (tOp (oAdd K) (dLst (tCons (dTupK (tCons (tOp (oIx K) (dVar 2) (dVar 5)) (tCons (tUn uNeg (tC (.int 1))) (tNil)))) (tNil))) (dLc (iRng (tCons (dVar 4) (tNil))) (gName 23) (tYes) (dTupK (tCons (tOp (oIx K) (dVar 2) (dVar 5)) (tCons (tOp oSub (tOp oSub (dVar 4) (tC (.int 1))) (dVar 23)) (tNil)))) [23])) (gName 13))
    (stop (t_law_14 K E))
def t_law_12 (K : Frag) (E : XK) : TS :=
    tSeq (tAsg (tOp (oEq K) (dCall (sp__law_draw K) (EW E) (tCons (dVar 0) (tCons (dVar 1) (tCons (tC (.int 2)) (tNil))))) (tC (.int 1))) (gName 12))
    (stop (t_law_13 K E))
def t_law_11 (K : Frag) (E : XK) : TS :=
    tSeq (tAsg (dCall (sp__law_draw K) (EW E) (tCons (dVar 0) (tCons (dVar 1) (tCons (tC (.int 5)) (tNil))))) (gName 11))
    (stop (t_law_12 K E))
def t_law_10 (K : Frag) (E : XK) : TS :=
    tSeq (dIfS (dCmpT (oEq K) (dCall (sp__law_draw K) (EW E) (tCons (dVar 0) (tCons (dVar 1) (tCons (tC (.int 2)) (tNil))))) (tC (.int 1))) (tAsg (dCall (sp__law_draw K) (EW E) (tCons (dVar 0) (tCons (dVar 1) (tCons (tOp oShl (tC (.int 1)) (dVar 3)) (tNil))))) (gName 10)) (tNext))
    (stop (t_law_11 K E))
def t_law_9 (K : Frag) (E : XK) : TS :=
    tSeq (tAsg (tOp oSub (tOp oShl (tC (.int 1)) (dVar 3)) (tC (.int 1))) (gName 10))
    (stop (t_law_10 K E))
def t_law_8 (K : Frag) (E : XK) : TS :=
    tSeq (tAsg (dLc (iSeq K (dVar 8)) (gName 18) (tYes) (dCall (sp__law_draw K) (EW E0) (tCons (dVar 0) (tCons (dVar 1) (tCons (tOp oShl (tC (.int 1)) (dVar 3)) (tNil))))) [18]) (gName 9))
    (stop (t_law_9 K E))
def t_law_7 (K : Frag) (E : XK) : TS :=
    tSeq (tAsg (dCall (sp__law_slices K) (EW E) (tCons (dVar 6) (tNil))) (gName 8))
    (stop (t_law_8 K E))
def t_law_6 (K : Frag) (E : XK) : TS :=
    tSeq (dFor (iRng (tCons (tCB (cLen K) (tCons (dVar 2) (tNil))) (tNil))) (gName 7) (t_law_b1 K E))
    (stop (t_law_7 K E))
def t_law_5 (K : Frag) (E : XK) : TS :=
    tSeq (tAsg (dLst (tNil)) (gName 6))
    (stop (t_law_6 K E))
def t_law_4 (K : Frag) (E : XK) : TS :=
    tSeq (tAsg (dCall (sp__law_draw K) (EW E) (tCons (dVar 0) (tCons (dVar 1) (tCons (tCB (cLen K) (tCons (dVar 2) (tNil))) (tNil))))) (gName 5))
    (stop (t_law_5 K E))
def t_law_3 (K : Frag) (E : XK) : TS :=
    tSeq (tAsg (tOp (oAdd K) (tC (.int 1)) (dCall (sp__law_draw K) (EW E) (tCons (dVar 0) (tCons (dVar 1) (tCons (tOp (oIx K) (dLst (tCons (tC (.int 3)) (tCons (tC (.int 3)) (tCons (tC (.int 3)) (tCons (tC (.int 2)) (tNil)))))) (dVar 3)) (tNil)))))) (gName 4))
    (stop (t_law_4 K E))
def t_law_2 (K : Frag) (E : XK) : TS :=
    tSeq (tAsg (dCall (sp__law_draw K) (EW E) (tCons (dVar 0) (tCons (dVar 1) (tCons (tC (.int 4)) (tNil))))) (gName 3))
    (stop (t_law_3 K E))
def t_law_1 (K : Frag) (E : XK) : TS :=
    tSeq (tAsg (dCall (sp__law_names K) (EW E) (tCons (dVar 0) (tCons (dVar 1) (tCons (tOp (oAdd K) (tC (.int 1)) (dCall (sp__law_draw K) (EW E) (tCons (dVar 0) (tCons (dVar 1) (tCons (tC (.int 3)) (tNil)))))) (tNil))))) (gName 2))
    (stop (t_law_2 K E))
def t_law (K : Frag) (E : XK) : TS :=
    tSeq (tAsg (dLst (tCons (tC (.int 0)) (tCons (tC (.int 0)) (tCons (tC (.int 0)) (tCons (tC (.int 0)) (tNil)))))) (gName 1))
    (stop (t_law_1 K E))
end S
-- fn: law
-- law: k72
-- inU: yes
-- tupK: yes
-- deps: Lrf Li L43b _law_is_set _law_least_k72 first_rows _law_mask_store _law_slices_k43 _law_names _law_draw Bqr Ucol Idc Lri Lr Lcc Lp Fstay Cols eqd_refl Inu Rds D0 D1
namespace S
open PySem PySem.Spec PyProof.Rows L2
/-- the rows asked for by a mask -/
def fA (A n : Nat) (r : Int) : Bool := decide (0 ≤ r ∧ r < (n : Int)) && A.testBit r.toNat
/-- the bits of the slices on the path -/
def gP (cs : List Col) (ms : List Nat) (z : Str) (w s : Nat) (r : Int) : Bool := (mkL (slicesOf cs) ms ((pthZ z w).getD s (z, -1))).testBit r.toNat
theorem fA_in {A n : Nat} {r : Int} (h : fA A n r = true) : 0 ≤ r ∧ r < (n : Int) := of_decide_eq_true (Bool.and_eq_true_iff.mp h).1
theorem pth_at {z : Str} {w s : Nat} (h1 : 1 ≤ s) (h2 : s ≤ w) : (pthZ z w)[s]? = some (z, (w : Int) - (s : Int)) := by
  obtain ⟨s, rfl⟩ : ∃ t, s = t + 1 := ⟨s - 1, by omega⟩
  unfold pthZ
  rw [List.getElem?_cons_succ, List.getElem?_map, List.getElem?_range (by omega)]
  show some (z, (w : Int) - 1 - (s : Int)) = _
  congr 2
  omega
theorem pth_len {z : Str} {w : Nat} : (pthZ z w).length = w + 1 := by unfold pthZ; rw [List.length_cons, List.length_map, List.length_range]; omega
theorem pth_so {z : Str} {w : Nat} (h : PyData.strOk z = true) : ∀ c ∈ pthZ z w, PyData.strOk c.1 = true := fun c hc => by
  rcases List.mem_cons.mp hc with rfl | hc
  · exact h
  · obtain ⟨j, _, rfl⟩ := List.mem_map.mp hc; exact h
theorem pth_in {cs : List Col} {z : Str} {w : Nat} (hw : (z, (w : Int)) ∈ cs) : ∀ c ∈ pthZ z w, c ∈ slicesOf cs := fun c hc => by
  rcases List.mem_cons.mp hc with rfl | hc
  · exact slicesOf_mem.mpr ⟨_, hw, rfl, by show (-1 : Int) ≤ -1; omega, by show (-1 : Int) < w; omega⟩
  · obtain ⟨j, hj, rfl⟩ := List.mem_map.mp hc
    have := List.mem_range.mp hj
    exact slicesOf_mem.mpr ⟨_, hw, rfl, by show (-1 : Int) ≤ (w : Int) - 1 - j; omega, by show (w : Int) - 1 - j < w; omega⟩
section
variable {K : Frag} {E : XK} {D : L2.Ends} {W W' : Hp} {a st nm p z mm x l d : Addr} {ys zs : List V} {cs : List Col} {ms : List Nat} {L : List Str} {n w i0 A k : Nat} {z0 : Str} {top : Bool} {Q : VK}
theorem frH_frG (hn : n ≤ 10) (k0 : 0 ≤ (k : Int)) : frH n (fA A n) (heM cs ms n) z0 w top k = frG n (fA A n) (gP cs ms z0 w) w top k := by
  have ew : ((w : Int)).toNat = w := Int.toNat_natCast w
  show frE n (fA A n) (inB (heM cs ms n (z0, -1))) (btF (bitH (heM cs ms n) z0) ((w : Int)).toNat top) ((w : Int)).toNat k = _
  rw [ew]
  have e1 : frE (n : Int) (fA A n) (inB (heM cs ms n (z0, -1))) (btF (bitH (heM cs ms n) z0) w top) w k = frE n (fA A n) (gP cs ms z0 w 0) (btF (bitH (heM cs ms n) z0) w top) w k := frE_pr fun r hr => by
    obtain ⟨r0, r1⟩ := fA_in hr
    exact heM_in r0 r1
  rw [e1]
  symm
  refine frE_congr (f := w + 1) (Nat.le_refl _) (fun q _ q2 r hr => btF_at ?_) (by have := (frE_sub (n := n) (fR := fA A n) (pr := gP cs ms z0 w 0) (bt := btF (bitH (heM cs ms n) z0) w top) (w := w) k0).2.2.1; omega)
  obtain ⟨r0, r1⟩ := fA_in hr
  show gP cs ms z0 w (w - q) r = inB (heM cs ms n (z0, (q : Int))) r
  rw [heM_in r0 r1]
  unfold gP
  rw [List.getD_eq_getElem?_getD, pth_at (by omega) (by omega), Option.getD_some, show (w : Int) - ((w - q : Nat) : Int) = (q : Int) by omega]
theorem run72 (ho : StO K W x l d cs n (heM cs ms n) []) (gc : goodC cs) (hw : (z0, (w : Int)) ∈ cs) (n3 : n ≤ 3) {rb : Addr} (hb : Bm K W rb n (chgE A n))
    (q : ∀ t c u tl H', SameX l W H' → SqT K H' t [.ref c, .ref u] → Bx K H' c n (frG n (fA A n) (gP cs ms z0 w) w top k).1 100 → SqT K H' u tl → Cols K H' tl ((pthZ z0 w).take (frG n (fA A n) (gP cs ms z0 w) w top k).2) → Q (.ref t) H') :
    sp_first_rows K [.ref x, .str z0, .int (k : Int), .ref rb, .bl top] W Q E := by
  refine ⟨x, l, d, cs, n, heM cs ms n, [], z0, (k : Int), .ref rb, top, n, fA A n, 0 :: ((List.range n).map fun j : Nat => (j : Int)), rfl, ho, by show 0 ≤ 50000; omega, by omega, ⟨by simp, by rw [List.length_cons, List.length_map, List.length_range]; omega⟩, fun c e he => List.mem_cons_of_mem _ (heM_sub c e he), .inr ⟨rb, rfl, chgE A n, hb, fun e he => ?_, fun r r0 r1 => ?_⟩, fun no => absurd rfl (no _ hw), fun _ _ hn => absurd rfl hn, fun _ _ _ hk => absurd hk (by omega), fun w' hw' _ _ t c u tl H' e2 ho2 ht hc hu hC => ?_⟩
  · obtain ⟨h1, h2⟩ := chgE_mem he
    exact List.mem_cons_of_mem _ (List.mem_map.mpr ⟨e.toNat, List.mem_range.mpr (by omega), by omega⟩)
  · show inB (chgE A n) r = fA A n r
    unfold fA
    obtain ⟨j, rfl⟩ : ∃ j : Nat, r = j := ⟨r.toNat, by omega⟩
    rw [chgE_in, if_pos (by omega), decide_eq_true ⟨r0, r1⟩, Bool.true_and, Int.toNat_natCast]
  · have ew := gc_uniq gc hw hw' rfl
    have ew : (w : Int) = w' := congrArg (fun t : Col => t.2) ew
    subst ew
    rw [frH_frG (by omega) (by omega)] at hc hC
    refine q t c u tl H' e2 ht (hc.mono ?_) hu hC
    rw [List.length_cons, List.length_map, List.length_range]
    omega
end
structure V72 (K : Frag) (W : Hp) (a st nm p z mm : Addr) (L : List Str) (ys zs : List V) (cs : List Col) (ms : List Nat) (n w i0 : Nat) (z0 : Str) : Prop where
  c : Ctx K W a st
  hL : W nm = some (.lst (L.map V.str))
  hi : L[i0]? = some z0
  hp : W p = some (.lst ys)
  hC : Cols K W ys cs
  hz : W z = some (.lst zs)
  hZ : ColsK W zs (slicesOf cs)
  g : goodC cs
  lc : cs.length ≤ 3
  wc : ∀ c ∈ cs, c.2 ≤ 3
  hw : (z0, (w : Int)) ∈ cs
  hm : W mm = some (.lst (ms.map fun x : Nat => V.int x))
  lm : ms.length = (slicesOf cs).length
  n3 : n ≤ 3
  w1 : 1 ≤ w
  w3 : w ≤ 3
  ne : nm ≠ st ∧ p ≠ st ∧ z ≠ st ∧ mm ≠ st
section
variable {K : Frag} {E : XK} {D : L2.Ends} {W W' : Hp} {a st nm p z mm x l d pt sr td ch gd du ot : Addr} {ys zs : List V} {cs : List Col} {ms : List Nat} {L : List Str} {n w i0 A k : Nat} {z0 : Str} {top : Bool} {Q : VK} {x7 x13 x14 x15 x16 x17 x18 x19 x20 x21 x22 : Option V}
theorem V72.mv (b : V72 K W a st nm p z mm L ys zs cs ms n w i0 z0) (e : SameX st W W') (c : Ctx K W' a st) : V72 K W' a st nm p z mm L ys zs cs ms n w i0 z0 := by
  obtain ⟨l0, hst⟩ := ctx_st b.c
  obtain ⟨n1, n2, n3, n4⟩ := b.ne
  exact ⟨c, e _ _ b.hL n1, b.hi, e _ _ b.hp n2, b.hC.x e hst, e _ _ b.hz n3, b.hZ.x e hst (fun _ z => by cases z), b.g, b.lc, b.wc, b.hw, e _ _ b.hm n4, b.lm, b.n3, b.w1, b.w3, b.ne⟩
theorem V72.same (b : V72 K W a st nm p z mm L ys zs cs ms n w i0 z0) (e : Same W W') : V72 K W' a st nm p z mm L ys zs cs ms n w i0 z0 := b.mv (Same.x e) (b.c.same e)
theorem V72.so (b : V72 K W a st nm p z mm L ys zs cs ms n w i0 z0) : PyData.strOk z0 = true := (b.g.2 _ b.hw).1.ok
abbrev s72 (a st nm : Addr) (n w i0 : Nat) (p : Addr) (x7 : Option V) (z mm : Addr) (A k : Nat) (top : Bool) (x13 x14 x15 x16 x17 x18 x19 x20 x21 x22 : Option V) : L2.St := [some (.ref a), some (.ref st), some (.ref nm), some (.int (n : Int)), some (.int (w : Int)), some (.int (i0 : Int)), some (.ref p), x7, some (.ref z), some (.ref mm), some (.int (A : Int)), some (.int (k : Int)), some (.bl top), x13, x14, x15, x16, x17, x18, x19, x20, x21, x22, none, none]
/-- the rows due, what was told first -/
structure R72 (K : Frag) (W : Hp) (td c1 u1 du : Addr) (tl : List V) (z0 : Str) (w n m : Nat) (f : Int → Bool) : Prop where
  ht : SqT K W td [.ref c1, .ref u1]
  hc : Bx K W c1 n f 100
  hu : SqT K W u1 tl
  hC : Cols K W tl ((pthZ z0 w).take m)
  hd : W du = some (.lst ((rowsL f n).map V.int))
theorem R72.mv {c1 u1 : Addr} {tl : List V} {f : Int → Bool} {m : Nat} {l0 : List V} (r : R72 K W td c1 u1 du tl z0 w n m f) (e : SameX st W W') (hst : W st = some (.lst l0)) (nd : du ≠ st) : R72 K W' td c1 u1 du tl z0 w n m f := ⟨e.tup r.ht hst, let ⟨es, h1, h2⟩ := r.hc; ⟨es, h1.x e hst, h2⟩, e.tup r.hu hst, r.hC.x e hst, e _ _ r.hd nd⟩
theorem R72.same {c1 u1 : Addr} {tl : List V} {f : Int → Bool} {m : Nat} (r : R72 K W td c1 u1 du tl z0 w n m f) (e : Same W W') : R72 K W' td c1 u1 du tl z0 w n m f := ⟨Same.tup e r.ht, r.hc.same e, Same.tup e r.hu, r.hC.same e, e _ _ r.hd⟩
theorem pr_take72 {α β : Type} {P : α → β → Prop} : ∀ {xs : List α} {ys : List β}, Paired P xs ys → ∀ i : Nat, Paired P (xs.take i) (ys.take i)
  | _, _, _, 0 => by rw [List.take_zero, List.take_zero]; exact .nil
  | _, _, .nil, _ + 1 => by rw [List.take_nil, List.take_nil]; exact .nil
  | _, _, .cons h t, i + 1 => by rw [List.take_succ_cons, List.take_succ_cons]; exact .cons h (pr_take72 t i)
theorem eqd_cols72 {K : Frag} {H : Hp} {a b : Addr} {ys zs : List V} {cs ds : List Col} {k : Bool → Prop} (h : SqT K H a ys) (h2 : SqT K H b zs) (p : Cols K H ys cs) (p2 : Cols K H zs ds) (s1 : ∀ c ∈ cs, PyData.strOk c.1 = true) (s2 : ∀ c ∈ ds, PyData.strOk c.1 = true) (q : k (decide (cs = ds))) : EqD K H (.ref a) (.ref b) k :=
  ⟨_, _, .tup h (dp_cols p), .tup h2 (dp_cols p2), shp_cols s1, shp_cols s2, by
    have e : PyData.eqv (.list (cs.map PySem.W.Datum.toD)) (.list (ds.map PySem.W.Datum.toD)) = decide (cs = ds) := PySem.W.Datum.eqv cs ds
    have e2 : PyData.eqv (.tuple (cs.map PySem.W.Datum.toD)) (.tuple (ds.map PySem.W.Datum.toD)) = PyData.eqv (.list (cs.map PySem.W.Datum.toD)) (.list (ds.map PySem.W.Datum.toD)) := rfl
    rw [e2, e]; exact q⟩
theorem k72_26 {c1 u1 : Addr} {tl : List V} {f : Int → Bool} {m : Nat} {ms2 : List Nat} (b : V72 K W a st nm p z mm L ys zs cs ms n w i0 z0) (r : R72 K W td c1 u1 du tl z0 w n m f) (ho : StO K W x l d cs n (heM cs ms2 n) []) (nl : l ≠ du) (hf : frG n (fA A n) (gP cs ms2 z0 w) w top k = (f, m)) (q : ∀ H', D.rt (.bl true) H') :
    t_law_26 K E D (s72 a st nm n w i0 p x7 z mm A k top x13 (some (.ref x)) (some (.ref td)) x16 x17 x18 x19 (some (.ref du)) x21 x22) W := by
  have hL := b.hL
  have hi : L2.atI (L.map V.str) ((i0 : Nat) : Int) = some (.str z0) := L2.atI_nat (by rw [List.getElem?_map, b.hi]; rfl)
  walk_at "gx"
  refine ⟨A, n, rfl, by have := b.n3; omega, fun rb W1 e1 nb hb => ?_⟩
  walk_at "gx"
  refine ⟨rfl, rfl, ?_⟩
  refine run72 (ho.same e1) b.g b.hw b.n3 hb fun t c u tl2 W2 e2 ht hc hu hC => ?_
  rw [hf] at hc hC
  obtain ⟨tl0, hl⟩ := ho.log
  have hl1 := e1 _ _ hl
  have htd := e2.tup (Same.tup e1 r.ht) hl1
  have hu1 := e2.tup (Same.tup e1 r.hu) hl1
  have hC1 := (r.hC.same e1).x e2 hl1
  have hd1 := e2 _ _ (e1 _ _ r.hd) (Ne.symm nl)
  have so := fun c hc => pth_so (w := w) b.so c (List.mem_of_mem_take (i := m) hc)
  refine ⟨?_⟩
  walk_at "gx"
  refine eqd_cols72 hu hu1 hC hC1 so so ?_
  rw [decide_eq_true rfl]
  dsimp only [isB]
  refine ifb (fun _ => ?_) (fun h => nomatch h)
  walk_at "gx"
  have n3 := b.n3
  exact ⟨c, du, (n : Int), f, 100, rfl, hc, by decide, by omega, by omega, hd1, fun W3 _ => q W3⟩
/-- the other masks -/
theorem k72_25 {c1 u1 : Addr} {tl : List V} {f : Int → Bool} {m : Nat} {ms2 : List Nat} (b : V72 K W a st nm p z mm L ys zs cs ms n w i0 z0) (r : R72 K W td c1 u1 du tl z0 w n m f) (ho : W ot = some (.lst (ms2.map fun x : Nat => V.int x))) (l2 : ms2.length = (slicesOf cs).length) (hf : frG n (fA A n) (gP cs ms2 z0 w) w top k = (f, m)) (q : ∀ H', D.rt (.bl true) H') :
    t_law_25 K E D (s72 a st nm n w i0 p x7 z mm A k top x13 x14 (some (.ref td)) x16 x17 x18 x19 (some (.ref du)) (some (.ref ot)) x22) W := by
  walk_at "gx"
  have n3 := b.n3
  refine ⟨p, z, ot, n, ys, zs, cs, ms2, rfl, b.hp, b.hC, b.g, b.lc, fun c hc => by have := b.wc c hc; omega, b.hz, b.hZ, by omega, ho, l2, fun x l d W1 e1 nx nl hS => ?_⟩
  have ne : ∀ {q : Addr} {o : HO}, W q = some o → l ≠ q := fun h y => by rw [← y, nl] at h; cases h
  refine ⟨?_⟩
  exact k72_26 (b.same e1) (r.same e1) hS (ne r.hd) hf q
/-- the masks behind the ones read are drawn again -/
theorem k72_23 {c1 u1 : Addr} {tl : List V} {f : Int → Bool} {m : Nat} (b : V72 K W a st nm p z mm L ys zs cs ms n w i0 z0) (r : R72 K W td c1 u1 du tl z0 w n m f) (hst : du ≠ st) (hf : frG n (fA A n) (gP cs ms z0 w) w top k = (f, m)) (q : ∀ H', D.rt (.bl true) H') :
    t_law_23 K E D (s72 a st nm n w i0 p x7 z mm A k top x13 x14 (some (.ref td)) x16 x17 x18 x19 (some (.ref du)) x21 x22) W := by
  have lz := (Paired.length b.hZ).symm
  have lsl := slicesOf_len cs fun c hc => (by have := b.wc c hc; show c.2 ≤ 1000; omega)
  have lc := b.lc
  have n3 := b.n3
  have nds := slicesOf_nodup b.g.1
  have mle : m ≤ w + 1 := by
    have := frG_le (n := n) (fR := fA A n) (g := gP cs ms z0 w) (w := w) (top := top) (k := (k : Int)) (by omega)
    rw [hf] at this
    exact this
  walk_at "gx"
  refine ⟨fun o no => ?_⟩
  have e1 := same_new (o := .lst ([] : List V)) no
  have ho : upd W o (.lst ([] : List V)) o = some (.lst []) := upd_same
  have os := ctx_ne b.c no
  have b1 := b.same e1
  have sx1 : SameX st W (upd W o (.lst ([] : List V))) := Same.x e1
  have c1' := b.c
  generalize upd W o (.lst ([] : List V)) = W1 at *
  refine ⟨?_⟩
  have hz1 := b1.hz
  walk_at "gx"
  refine for_rng (fun i σ Y => ∃ (ms2 : List Nat) (x7 : Option V), σ = s72 a st nm n w i0 p x7 z mm A k top x13 x14 (some (.ref td)) x16 x17 x18 x19 (some (.ref du)) (some (.ref o)) x22 ∧ SameX st W Y ∧ Ctx K Y a st ∧ Y o = some (.lst (ms2.map fun x : Nat => V.int x)) ∧ ms2.length = i ∧ ∀ j c, j < i → (slicesOf cs)[j]? = some c → c ∈ (pthZ z0 w).take m → ms2[j]? = ms[j]?)
    ⟨[], x7, rfl, sx1, b1.c, ho, rfl, fun j c h => absurd h (Nat.not_lt_zero _)⟩ ?_ ?_
  · rintro i σ Y hi ⟨ms2, y7, rfl, sV, cV, hoV, l2, hch⟩
    obtain ⟨l0, hst0⟩ := ctx_st b.c
    have bY := b.mv sV cV
    have rY := r.mv sV hst0 hst
    have il : i < (slicesOf cs).length := by omega
    obtain ⟨c, hc⟩ : ∃ c, (slicesOf cs)[i]? = some c := ⟨_, List.getElem?_eq_getElem il⟩
    obtain ⟨m0, hm0⟩ : ∃ m0, ms[i]? = some m0 := ⟨_, List.getElem?_eq_getElem (by rw [b.lm]; exact il)⟩
    obtain ⟨y, hy, pa, rfl, hpa⟩ := prK_at47 bY.hZ hc
    have hzY := bY.hz
    have hmY := bY.hm
    have htY := rY.ht
    have hpaT : SqT K Y pa [.str c.1, .int c.2] := SqT.of hpa
    have sc : PyData.strOk c.1 = true := by
      obtain ⟨b0, hb0, e, _⟩ := slicesOf_mem.mp (List.mem_of_getElem? hc)
      rw [e]; exact (b.g.2 _ hb0).1.ok
    have at1 : L2.atI zs ((i : Nat) : Int) = some (.ref pa) := L2.atI_nat hy
    have at2 : L2.atI (ms.map fun x : Nat => V.int x) ((i : Nat) : Int) = some (.int (m0 : Nat)) := L2.atI_nat (by rw [List.getElem?_map, hm0]; rfl)
    have so := fun c hc => pth_so (w := w) b.so c (List.mem_of_mem_take (i := m) hc)
    have lz2 : (ms2.map fun x : Nat => V.int x).length < sizeLine := by rw [sizeLine_eq, List.length_map]; omega
    walk_at "gx"
    refine inU_col hpaT rY.hu rY.hC sc so ?_
    refine ifd (fun hin => ?_) (fun hin => ?_)
    · walk_at "gx"
      refine ⟨ms2 ++ [m0], _, rfl, SameX.mut sV no, cV.mut b.c no, by rw [List.map_append]; exact upd_same, by rw [List.length_append, l2]; rfl, fun j c' hj hc' hin' => ?_⟩
      by_cases hji : j < i
      · rw [List.getElem?_append_left (by omega)]
        exact hch j c' hji hc' hin'
      · obtain rfl : j = i := by omega
        rw [List.getElem?_append_right (by omega), l2, Nat.sub_self, hm0]; rfl
    · walk_at "gx"
      have p0 : (0 : Int) < 1 * 2 ^ ((n : Nat) : Int).toNat := by rw [Int.one_mul]; exact Int.pow_pos (by decide)
      refine ⟨a, st, _, rfl, cV, p0, fun mx Z mx0 mx1 cZ eZ => ?_⟩
      obtain ⟨mx, rfl⟩ : ∃ t : Nat, mx = t := ⟨mx.toNat, by omega⟩
      have hoZ := eZ _ _ hoV os
      walk_at "gx"
      refine ⟨ms2 ++ [mx], _, rfl, SameX.mut (sV.trans eZ) no, cZ.mut b.c no, by rw [List.map_append]; exact upd_same, by rw [List.length_append, l2]; rfl, fun j c' hj hc' hin' => ?_⟩
      by_cases hji : j < i
      · rw [List.getElem?_append_left (by omega)]
        exact hch j c' hji hc' hin'
      · obtain rfl : j = i := by omega
        rw [hc] at hc'; cases hc'
        exact absurd hin' hin
  · rintro σ Y ⟨ms2, y7, rfl, sV, cV, hoV, l2, hch⟩
    obtain ⟨l0, hst0⟩ := ctx_st b.c
    have l2 : ms2.length = (slicesOf cs).length := by rw [l2]; omega
    refine ⟨?_⟩
    refine k72_25 (b.mv sV cV) (r.mv sV hst0 hst) hoV l2 ?_ q
    rw [← hf]
    have hm2 : (frG n (fA A n) (gP cs ms z0 w) w top k).2 ≤ m := by rw [hf]; exact Nat.le_refl _
    refine frG_congr mle hm2 fun s hs rr _ => ?_
    unfold gP
    obtain ⟨c, hc⟩ : ∃ c, (pthZ z0 w)[s]? = some c := ⟨_, List.getElem?_eq_getElem (by rw [pth_len]; omega)⟩
    rw [List.getD_eq_getElem?_getD, hc, Option.getD_some]
    have hcs := pth_in b.hw c (List.mem_of_getElem? hc)
    obtain ⟨j, hj⟩ := List.mem_iff_getElem?.mp hcs
    have jl := (List.getElem?_eq_some_iff.mp hj).1
    obtain ⟨m0, hm0⟩ : ∃ m0, ms[j]? = some m0 := ⟨_, List.getElem?_eq_getElem (by rw [b.lm]; exact jl)⟩
    have := hch j c (by omega) hj (List.mem_of_getElem? (by rw [List.getElem?_take, if_pos hs]; exact hc))
    rw [mkL_at nds hj hm0, mkL_at nds hj (by rw [this]; exact hm0)]
/-- the rows due -/
theorem k72_21 {c1 u1 : Addr} {tl : List V} {ls : List Addr} (b : V72 K W a st nm p z mm L ys zs cs ms n w i0 z0) (hG : GrdH K W gd ls (gP cs ms z0 w) w (rowsN (fA A n) n)) (hch : W ch = some (.lst ((rowsN (fA A n) n).map fun j : Nat => V.int j))) (k1 : k ≤ 1000)
    (ht : SqT K W td [.ref c1, .ref u1]) (hc : Bx K W c1 n (frG n (fA A n) (gP cs ms z0 w) w top k).1 100) (hu : SqT K W u1 tl) (hC : Cols K W tl ((pthZ z0 w).take (frG n (fA A n) (gP cs ms z0 w) w top k).2)) (q : ∀ H', D.rt (.bl true) H') :
    t_law_21 K E D (s72 a st nm n w i0 p x7 z mm A k top x13 x14 (some (.ref td)) (some (.ref ch)) (some (.ref gd)) x18 x19 x20 x21 x22) W := by
  have n3 := b.n3
  have w1 := b.w1
  have w3 := b.w3
  walk_at "gx"
  refine ⟨gd, ch, k, top, ls, gP cs ms z0 w, w, (n : Int), fA A n, rfl, by rw [Int.toNat_natCast]; exact hG, by rw [Int.toNat_natCast]; exact hch, w1, by omega, by omega, k1, fun du W1 e1 ndu hdu => ?_⟩
  rw [Int.toNat_natCast] at hdu
  have b1 := b.same e1
  have dst := ctx_ne b.c ndu
  have r1 : R72 K W1 td c1 u1 du tl z0 w n (frG n (fA A n) (gP cs ms z0 w) w top k).2 (frG n (fA A n) (gP cs ms z0 w) w top k).1 := ⟨Same.tup e1 ht, hc.same e1, Same.tup e1 hu, hC.same e1, hdu⟩
  have ht1 := r1.ht
  have hu1 := r1.hu
  refine ⟨?_⟩
  walk_at "gx"
  refine ⟨c1, du, (n : Int), _, 100, rfl, r1.hc, by decide, by omega, by omega, hdu, fun W2 e2 => ?_⟩
  dsimp only [dTru, isB]
  refine ifb (fun h => absurd h (by decide)) (fun _ => ?_)
  refine ⟨?_⟩
  exact k72_23 (b1.same e2) (r1.same e2) dst rfl q
/-- the slices told -/
theorem k72_20 {c1 u1 : Addr} {tl ps : List V} {ls : List Addr} (b : V72 K W a st nm p z mm L ys zs cs ms n w i0 z0) (hG : GrdH K W gd ls (gP cs ms z0 w) w (rowsN (fA A n) n)) (hch : W ch = some (.lst ((rowsN (fA A n) n).map fun j : Nat => V.int j))) (k1 : k ≤ 1000) (hpt : W pt = some (.lst ps)) (hP : Cols K W ps (pthZ z0 w))
    (ht : SqT K W td [.ref c1, .ref u1]) (hc : Bx K W c1 n (frG n (fA A n) (gP cs ms z0 w) w top k).1 100) (hu : SqT K W u1 tl) (hC : Cols K W tl ((pthZ z0 w).take (frG n (fA A n) (gP cs ms z0 w) w top k).2)) (q : ∀ H', D.rt (.bl true) H') :
    t_law_20 K E D (s72 a st nm n w i0 p x7 z mm A k top (some (.ref pt)) x14 (some (.ref td)) (some (.ref ch)) (some (.ref gd)) x18 x19 x20 x21 x22) W := by
  have n3 := b.n3
  have w1 := b.w1
  have w3 := b.w3
  walk_at "gx"
  refine ⟨fun q1 nq1 => ?_⟩
  have e1 := same_new (o := .lst tl) nq1
  have hq1 : upd W q1 (.lst tl) q1 = some (.lst tl) := upd_same
  generalize upd W q1 (.lst tl) = W1 at *
  have hpt1 := e1 _ _ hpt
  walk_at "gx"
  refine ⟨gd, ch, k, top, ls, gP cs ms z0 w, w, (n : Int), fA A n, rfl, by rw [Int.toNat_natCast]; exact hG.same e1, by rw [Int.toNat_natCast]; exact e1 _ _ hch, w1, by omega, by omega, k1, fun r hr => fA_in hr, fun W2 e2 => ?_⟩
  generalize hm : (frG n (fA A n) (gP cs ms z0 w) w top k).2 = m at *
  have hpt2 := e2 _ _ hpt1
  refine Cut.l (SqL.of hpt2) fun q2 nq2 => ?_
  rw [cut_take]
  have e3 := same_new (o := .lst (ps.take m)) nq2
  have hq2 : upd W2 q2 (.lst (ps.take m)) q2 = some (.lst (ps.take m)) := upd_same
  generalize upd W2 q2 (.lst (ps.take m)) = W3 at *
  have e13 := (e1.trans e2).trans e3
  have so := fun c hc => pth_so (w := w) b.so c (List.mem_of_mem_take (i := m) hc)
  refine eqd_cols (SqL.of (e3 _ _ (e2 _ _ hq1))) (SqL.of hq2) (hC.same e13) (pr_take72 (hP.same e13) m) so so ?_
  rw [decide_eq_true rfl]
  dsimp only [dTru, isB]
  refine ifb (fun h => absurd h (by decide)) (fun _ => ?_)
  refine ⟨?_⟩
  exact k72_21 (b.same e13) (hG.same e13) (e13 _ _ hch) k1 (Same.tup e13 ht) (hc.same e13) (Same.tup e13 hu) (by rw [hm]; exact hC.same e13) q
/-- the grid -/
theorem k72_17 {c1 u1 : Addr} {tl ps : List V} (b : V72 K W a st nm p z mm L ys zs cs ms n w i0 z0) (k1 : k ≤ 1000) (hpt : W pt = some (.lst ps)) (hP : Cols K W ps (pthZ z0 w))
    (ht : SqT K W td [.ref c1, .ref u1]) (hc : Bx K W c1 n (frG n (fA A n) (gP cs ms z0 w) w top k).1 100) (hu : SqT K W u1 tl) (hC : Cols K W tl ((pthZ z0 w).take (frG n (fA A n) (gP cs ms z0 w) w top k).2)) (q : ∀ H', D.rt (.bl true) H') :
    t_law_17 K E D (s72 a st nm n w i0 p x7 z mm A k top (some (.ref pt)) x14 (some (.ref td)) x16 x17 x18 x19 x20 x21 x22) W := by
  have n3 := b.n3
  have w1 := b.w1
  have w3 := b.w3
  have nds := slicesOf_nodup b.g.1
  walk_at "gx"
  refine lc_rngF (m := n) (fun j => A.testBit j) (fun j => (j : Int)) (by rw [sizeLine_eq]; omega) ?_ ?_
  · intro j X A' B' hj e hA hB
    refine ⟨rfl, ?_⟩
    walk_at "gx"
    show (if decide (Builtin.bitAnd ((A : Int) / 2 ^ ((j : Nat) : Int).toNat) 1 = 1) = true then _ else _)
    rw [bit_and]
    show (if A.testBit ((j : Nat) : Int).toNat = true then _ else _)
    rw [Int.toNat_natCast]
    cases hb : A.testBit j with
    | true => rw [if_pos rfl]; exact hA hb
    | false => rw [if_neg Bool.false_ne_true]; exact hB hb
  · intro ch X nch hch e1
    have eR : ((List.range n).filter fun j => A.testBit j) = rowsN (fA A n) n := by
      unfold rowsN
      refine List.filter_congr fun j hj => ?_
      have := List.mem_range.mp hj
      unfold fA
      rw [decide_eq_true (show (0 : Int) ≤ j ∧ (j : Int) < n by omega), Bool.true_and, Int.toNat_natCast]
    rw [eR, List.map_map] at hch
    have hch : X ch = some (.lst ((rowsN (fA A n) n).map fun j : Nat => V.int j)) := hch
    have bX := b.same e1
    refine ⟨?_⟩
    walk_at "gx"
    refine ⟨fun gd ngd => ?_⟩
    have e2 := same_new (o := .lst ([] : List V)) ngd
    have hgd : upd X gd (.lst ([] : List V)) gd = some (.lst []) := upd_same
    generalize upd X gd (.lst ([] : List V)) = Y at *
    have e12 := e1.trans e2
    have lps : ps.length = w + 1 := by rw [← Paired.length hP, pth_len]
    have lR := rowsN_le (f := fA A n) (n := n)
    refine ⟨?_⟩
    have hptY := e12 _ _ hpt
    walk_at "gx"
    refine for_seq0 (H0 := X) (fun s σ Z => ∃ (ls : List Addr) (x18 x19 : Option V), σ = s72 a st nm n w i0 p x7 z mm A k top (some (.ref pt)) x14 (some (.ref td)) (some (.ref ch)) (some (.ref gd)) x18 x19 x20 x21 x22 ∧ Same X Z ∧ Z gd = some (.lst (ls.map V.ref)) ∧ ls.length = s ∧ ∀ (t : Nat) (a : Addr), ls[t]? = some a → a ≠ gd ∧ Z a = some (.lst ((rowsN (fA A n) n).map fun j : Nat => V.int (b2n (gP cs ms z0 w t j))))) (.inl (SqL.of (e1 _ _ hpt))) e2 ⟨[], x18, x19, rfl, e2, hgd, rfl, fun t a h => by simp at h⟩ (fun _ _ _ h => by obtain ⟨_, _, _, _, h, _⟩ := h; exact h) ?_ ?_
    · rintro s v σ Z hv ⟨ls, y18, y19, rfl, eZ, hZ, lls, hls⟩
      have hs : s < w + 1 := by rw [← lps]; exact (List.getElem?_eq_some_iff.mp hv).1
      obtain ⟨cc, hcc, pa, rfl, hpa⟩ := paired_at2 hP hv
      have bZ := bX.same eZ
      have hpaZ := Same.tup (e1.trans eZ) hpa
      have hzZ := bZ.hz
      have hmZ := bZ.hm
      have hchZ := eZ _ _ hch
      have csl := pth_in b.hw cc (List.mem_of_getElem? hcc)
      have ga := ixF_get csl
      have lga := ixF_lt csl
      obtain ⟨m0, hm0⟩ : ∃ m0, ms[ixF (slicesOf cs) cc]? = some m0 := ⟨_, List.getElem?_eq_getElem (by rw [b.lm]; exact lga)⟩
      have sosl : ∀ c ∈ slicesOf cs, PyData.strOk c.1 = true := fun c hc => by
        obtain ⟨b0, hb0, e, _⟩ := slicesOf_mem.mp hc
        rw [e]; exact (b.g.2 _ hb0).1.ok
      walk_at "gx"
      refine idx_col (SqL.of hzZ) bZ.hZ.t hpaZ sosl csl ?_
      have at2 : L2.atI (ms.map fun x : Nat => V.int x) ((ixF (slicesOf cs) cc : Nat) : Int) = some (.int m0) := L2.atI_nat (by rw [List.getElem?_map, hm0]; rfl)
      walk_at "gx"
      have hchI : Z ch = some (.lst ((rowsL (fA A n) n).map V.int)) := by rw [hchZ, List.map_map]; rfl
      refine lc_ints (rowsL (fA A n) n) (fun i => b2n (m0.testBit i.toNat)) (fun _ => true) (.inl (SqL.of hchI)) (by rw [List.length_map]; omega) ?_ ?_
      · intro i Z2 A' B' hi e5 hA _
        obtain ⟨j, hj, rfl⟩ := List.mem_map.mp hi
        refine ⟨rfl, ?_⟩
        unfold tYes
        walk_at "gx"
        have eb : Builtin.bitAnd ((m0 : Int) / 2 ^ ((j : Nat) : Int).toNat) 1 = b2n (m0.testBit ((j : Nat) : Int).toNat) := by
          rw [bit_val]
          unfold bitN
          cases m0.testBit ((j : Nat) : Int).toNat <;> rfl
        show A' (V.int (Builtin.bitAnd ((m0 : Int) / 2 ^ ((j : Nat) : Int).toNat) 1)) Z2
        rw [eb]
        exact hA _ (Same.refl _) rfl
      · intro D2 Z2 nD hD e5
        have hZ2 := e5 _ _ hZ
        have nDg : D2 ≠ gd := fun y => by rw [y, hZ] at nD; cases nD
        have lz : (ls.map V.ref).length < sizeLine := by rw [sizeLine_eq, List.length_map]; omega
        walk_at "gx"
        rw [List.filter_eq_self.mpr (fun _ _ => rfl), List.map_map, List.map_map] at hD
        refine ⟨ls ++ [D2], _, _, rfl, Same.mut (eZ.trans e5) ngd, by rw [List.map_append]; exact upd_same, by rw [List.length_append, lls]; rfl, fun t b' hb => ?_⟩
        by_cases hlt : t < ls.length
        · rw [List.getElem?_append_left hlt] at hb
          obtain ⟨h1, h2⟩ := hls t b' hb
          exact ⟨h1, by rw [upd_ne h1]; exact e5 _ _ h2⟩
        · have hl := (List.getElem?_eq_some_iff.mp hb).1
          rw [List.length_append, List.length_singleton] at hl
          obtain rfl : t = s := by omega
          rw [List.getElem?_append_right (by omega), lls, Nat.sub_self] at hb
          obtain rfl : D2 = b' := Option.some.inj hb
          refine ⟨nDg, ?_⟩
          rw [upd_ne nDg, hD]
          congr 2
          refine List.map_congr_left fun j _ => ?_
          show V.int (b2n (m0.testBit ((j : Nat) : Int).toNat)) = V.int (b2n (gP cs ms z0 w t (j : Nat)))
          unfold gP
          rw [List.getD_eq_getElem?_getD, hcc, Option.getD_some, mkL_at nds ga hm0]
    · rintro σ Z ⟨ls, y18, y19, rfl, eZ, hZ, lls, hls⟩
      refine ⟨?_⟩
      have eW := e1.trans eZ
      exact k72_20 (b.same eW) ⟨hZ, by rw [lls, lps], fun s a h => (hls s a h).2⟩ (eZ _ _ hch) k1 (eW _ _ hpt) (hP.same eW) (Same.tup eW ht) (hc.same eW) (Same.tup eW hu) (hC.same eW) q
/-- the store, the first reading -/
theorem k72_14 {ps : List V} (b : V72 K W a st nm p z mm L ys zs cs ms n w i0 z0) (k1 : k ≤ 1000) (hpt : W pt = some (.lst ps)) (hP : Cols K W ps (pthZ z0 w)) (q : ∀ H', D.rt (.bl true) H') :
    t_law_14 K E D (s72 a st nm n w i0 p x7 z mm A k top (some (.ref pt)) x14 x15 x16 x17 x18 x19 x20 x21 x22) W := by
  have n3 := b.n3
  walk_at "gx"
  refine ⟨p, z, mm, n, ys, zs, cs, ms, rfl, b.hp, b.hC, b.g, b.lc, fun c hc => by have := b.wc c hc; omega, b.hz, b.hZ, by omega, b.hm, b.lm, fun x l d W1 e1 nx nl hS => ?_⟩
  have ne : ∀ {q : Addr} {o : HO}, W q = some o → l ≠ q := fun h y => by rw [← y, nl] at h; cases h
  obtain ⟨l0, hst⟩ := ctx_st b.c
  have b1 := b.same e1
  have hL := b1.hL
  have hi : L2.atI (L.map V.str) ((i0 : Nat) : Int) = some (.str z0) := L2.atI_nat (by rw [List.getElem?_map, b.hi]; rfl)
  refine ⟨?_⟩
  walk_at "gx"
  refine ⟨A, n, rfl, by omega, fun rb W2 e2 nb hb => ?_⟩
  walk_at "gx"
  refine ⟨rfl, rfl, ?_⟩
  obtain ⟨tl0, hl⟩ := hS.log
  have hl2 := e2 _ _ hl
  refine run72 (hS.same e2) b.g b.hw b.n3 hb fun t c u tl W3 e3 ht hc hu hC => ?_
  have e12 := e1.trans e2
  have b2 := b.same e12
  have b3 : V72 K W3 a st nm p z mm L ys zs cs ms n w i0 z0 := by
    obtain ⟨n1, n2, n3', n4⟩ := b.ne
    have c3 := b2.c.fx e3 b.c nl
    exact ⟨c3, e3 _ _ b2.hL (Ne.symm (ne b.hL)), b.hi, e3 _ _ b2.hp (Ne.symm (ne b.hp)), b2.hC.x e3 hl2, e3 _ _ b2.hz (Ne.symm (ne b.hz)), b2.hZ.x e3 hl2 (fun _ z => by cases z), b.g, b.lc, b.wc, b.hw, e3 _ _ b2.hm (Ne.symm (ne b.hm)), b.lm, b.n3, b.w1, b.w3, b.ne⟩
  refine ⟨?_⟩
  walk_at "gx"
  refine isi_tup ht ?_
  walk_at "gx"
  refine isi_tup hu ?_
  refine ⟨?_⟩
  exact k72_17 b3 k1 (e3 _ _ (e12 _ _ hpt) (Ne.symm (ne hpt))) ((hP.same e12).x e3 hl2) ht hc hu hC q
/-- the path -/
theorem k72_13 (b : V72 K W a st nm p z mm L ys zs cs ms n w i0 z0) (k1 : k ≤ 1000) (q : ∀ H', D.rt (.bl true) H') :
    t_law_13 K E D (s72 a st nm n w i0 p x7 z mm A k top x13 x14 x15 x16 x17 x18 x19 x20 x21 x22) W := by
  have hL := b.hL
  have w3 := b.w3
  have hi : L2.atI (L.map V.str) ((i0 : Nat) : Int) = some (.str z0) := L2.atI_nat (by rw [List.getElem?_map, b.hi]; rfl)
  walk_at "gx"
  refine ⟨fun t1 nt1 => ?_⟩
  have e1 := same_new (o := .tup [V.str z0, .int (-1)]) nt1
  have h1 : upd W t1 (.tup [V.str z0, .int (-1)]) t1 = some (.tup [.str z0, .int (-1)]) := upd_same
  generalize upd W t1 (.tup [V.str z0, .int (-1)]) = W1 at *
  refine Need.mk (by rw [sizeLine_eq]; show 1 ≤ 16777216; decide) ⟨fun q1 nq => ?_⟩
  have e2 := same_new (o := .lst [V.ref t1]) nq
  have hq : upd W1 q1 (.lst [V.ref t1]) q1 = some (.lst [.ref t1]) := upd_same
  generalize upd W1 q1 (.lst [V.ref t1]) = W2 at *
  have e12 := e1.trans e2
  have hL2 := e12 _ _ hL
  walk_at "gx"
  refine lc_rng (m := w) (fun D j y H => ∃ T, y = .ref T ∧ T ≠ D ∧ H T = some (.tup [.str z0, .int ((w : Int) - 1 - (j : Int))])) (by rw [sizeLine_eq]; omega) ?_ ?_ ?_
  · rintro D j y H1 H2 l hD ⟨T, rfl, hTD, hT⟩ e
    exact ⟨T, rfl, hTD, e _ _ hT hTD⟩
  · intro D l2 j H1 A nD hD hj e hA
    refine ⟨rfl, ?_⟩
    have hL3 := e _ _ hL2
    walk_at "gx"
    refine ⟨fun T nT => ?_⟩
    exact hA _ _ (same_new nT) ⟨T, rfl, (fun y => by rw [y, hD] at nT; cases nT), upd_same⟩
  intro D2 ys2 W3 nD2 hD2 lys hys e3
  have hq3 := e3 _ _ hq
  refine Cat.l hq3 hD2 (by rw [sizeLine_eq]; simp only [List.length_cons, List.length_nil]; omega) fun q4 nq4 => ?_
  have e4 := same_new (o := .lst ([V.ref t1] ++ ys2)) nq4
  have hq4 : upd W3 q4 (.lst ([V.ref t1] ++ ys2)) q4 = some (.lst ([V.ref t1] ++ ys2)) := upd_same
  have e14 := (e12.trans e3).trans e4
  have hP : Cols K (upd W3 q4 (.lst ([V.ref t1] ++ ys2))) ([V.ref t1] ++ ys2) (pthZ z0 w) := by
    refine .cons ⟨t1, rfl, SqT.of (((e2.trans e3).trans e4) _ _ h1)⟩ ?_
    rw [Int.toNat_natCast]
    have gen : ∀ i, i ≤ w → Cols K (upd W3 q4 (.lst ([V.ref t1] ++ ys2))) (ys2.take i) (((List.range w).map fun j : Nat => ((z0, (w : Int) - 1 - (j : Int)) : Col)).take i) := fun i hi => by
      induction i with
      | zero => rw [List.take_zero, List.take_zero]; exact .nil
      | succ i ih =>
        obtain ⟨y, hy⟩ : ∃ y, ys2[i]? = some y := ⟨_, List.getElem?_eq_getElem (by omega)⟩
        obtain ⟨T, rfl, _, hT⟩ := hys i y hy
        rw [List.take_add_one, List.take_add_one, hy, List.getElem?_map, List.getElem?_range (by omega)]
        exact cols_snoc (ih (by omega)) ⟨T, rfl, SqT.of (e4 _ _ hT)⟩
    have g := gen w (Nat.le_refl _)
    rw [List.take_of_length_le (by omega), List.take_of_length_le (by rw [List.length_map, List.length_range]; omega)] at g
    exact g
  generalize upd W3 q4 (.lst ([V.ref t1] ++ ys2)) = W4 at *
  generalize [V.ref t1] ++ ys2 = ps at *
  refine ⟨?_⟩
  exact k72_14 (b.same e14) k1 hq4 hP q
/-- numbers drawn, the rows asked -/
theorem k72_9 (b : V72 K W a st nm p z mm L ys zs cs ms n w i0 z0) (q : ∀ H', D.rt (.bl true) H') :
    t_law_9 K E D [some (.ref a), some (.ref st), some (.ref nm), some (.int (n : Int)), some (.int (w : Int)), some (.int (i0 : Int)), some (.ref p), x7, some (.ref z), some (.ref mm), none, none, none, x13, x14, x15, x16, x17, x18, x19, x20, x21, x22, none, none] W := by
  have n3 := b.n3
  have p1 : (0 : Int) < 1 * 2 ^ ((n : Nat) : Int).toNat := by rw [Int.one_mul]; exact Int.pow_pos (by decide)
  have f11 : ∀ (A : Nat) (W : Hp), V72 K W a st nm p z mm L ys zs cs ms n w i0 z0 → t_law_11 K E D [some (.ref a), some (.ref st), some (.ref nm), some (.int (n : Int)), some (.int (w : Int)), some (.int (i0 : Int)), some (.ref p), x7, some (.ref z), some (.ref mm), some (.int (A : Int)), none, none, x13, x14, x15, x16, x17, x18, x19, x20, x21, x22, none, none] W := fun A W b => by
    walk_at "gx"
    refine ⟨a, st, _, rfl, b.c, by decide, fun kk W1 k0 k1 c1 e1 => ?_⟩
    obtain ⟨k, rfl⟩ : ∃ t : Nat, kk = t := ⟨kk.toNat, by omega⟩
    have b1 := b.mv e1 c1
    have k1 : (k : Int) < 5 := k1
    refine ⟨?_⟩
    walk_at "gx"
    refine ⟨a, st, _, rfl, c1, by decide, fun tt W2 _ _ c2 e2 => ?_⟩
    have b2 := b1.mv e2 c2
    walk_at "gx"
    exact k72_13 b2 (by omega) q
  walk_at "gx"
  refine ⟨a, st, _, rfl, b.c, by decide, fun dd W1 _ _ c1 e1 => ?_⟩
  have b1 := b.mv e1 c1
  walk_at "gx"
  refine ifd (fun _ => ?_) (fun _ => ?_)
  · walk_at "gx"
    refine ⟨a, st, _, rfl, c1, p1, fun AA W2 a0 a1 c2 e2 => ?_⟩
    obtain ⟨A, rfl⟩ : ∃ t : Nat, AA = t := ⟨AA.toNat, by omega⟩
    refine ⟨?_⟩
    exact f11 A W2 (b1.mv e2 c2)
  · refine ⟨?_⟩
    have g := f11 (2 ^ n - 1) W1 b1
    have ea : (((2 ^ n - 1 : Nat)) : Int) = (1 : Int) * 2 ^ ((n : Nat) : Int).toNat - 1 := by
      rw [Int.toNat_natCast, Int.one_mul]
      have : 0 < 2 ^ n := Nat.pow_pos (by decide)
      have h2 : (((2 : Nat) ^ n : Nat) : Int) = (2 : Int) ^ n := Int.natCast_pow 2 n
      rw [← h2]
      omega
    rw [ea] at g
    exact g
/-- the masks -/
theorem k72_7 (c : Ctx K W a st) (hL : W nm = some (.lst (L.map V.str))) (hi : L[i0]? = some z0) (hp : W p = some (.lst ys)) (hC : Cols K W ys cs) (g : goodC cs) (lc : cs.length ≤ 3) (wc : ∀ c ∈ cs, c.2 ≤ 3) (hw : (z0, (w : Int)) ∈ cs) (n3 : n ≤ 3) (w1 : 1 ≤ w) (w3 : w ≤ 3) (ne : nm ≠ st ∧ p ≠ st) (q : ∀ H', D.rt (.bl true) H') :
    t_law_7 K E D [some (.ref a), some (.ref st), some (.ref nm), some (.int (n : Int)), some (.int (w : Int)), some (.int (i0 : Int)), some (.ref p), x7, none, none, none, none, none, none, none, none, none, none, none, none, none, none, none, none, none] W := by
  have lsl := slicesOf_len cs fun c hc => (by have := wc c hc; show c.2 ≤ 1000; omega)
  walk_at "gx"
  refine ⟨p, ys, cs, rfl, hp, hC, by omega, fun c hc => ⟨(g.2 c hc).2, by have := wc c hc; omega⟩, fun z zs W1 e1 nz hz hZ => ?_⟩
  obtain ⟨l0, hst⟩ := ctx_st c
  have zst := ctx_ne c nz
  have c1 := c.same e1
  have lz := (Paired.length hZ).symm
  have p1 : (0 : Int) < 1 * 2 ^ ((n : Nat) : Int).toNat := by rw [Int.one_mul]; exact Int.pow_pos (by decide)
  refine ⟨?_⟩
  walk_at "gx"
  refine lc_lstX (K := K) (a := a) (st := st) (fun D0 j y W' => ∃ m : Nat, y = .int m) hz zst (by rw [sizeLine_eq]; omega) c1 (fun D j y Y Y' l0 _ _ g e => g) (fun D j y Y Y' _ g _ e => g) ?_ ?_
  · intro D0 l j x Y A nD hl hx e cc hA
    refine ⟨rfl, ?_⟩
    walk_at "gx"
    refine ⟨a, st, _, rfl, cc, p1, fun m Y' m0 m1 c' e' => ?_⟩
    exact hA _ _ e' c' ⟨m.toNat, by rw [Int.toNat_of_nonneg m0]⟩
  intro mm vs W2 nmm hmm lvs hvs e2 c2
  obtain ⟨ms, rfl⟩ : ∃ ms : List Nat, vs = ms.map fun x : Nat => V.int x := by
    clear hmm lvs
    induction vs with
    | nil => exact ⟨[], rfl⟩
    | cons v vs ih =>
      obtain ⟨m, rfl⟩ := hvs 0 v rfl
      obtain ⟨ms, rfl⟩ := ih fun j y hj => hvs (j + 1) y hj
      exact ⟨m :: ms, rfl⟩
  have lm : ms.length = (slicesOf cs).length := by rw [List.length_map] at lvs; omega
  obtain ⟨l1, hst1⟩ := ctx_st c1
  have b : V72 K W2 a st nm p z mm L ys zs cs ms n w i0 z0 := ⟨c2, e2 _ _ (e1 _ _ hL) ne.1, hi, e2 _ _ (e1 _ _ hp) ne.2, (hC.same e1).x e2 hst1, e2 _ _ hz zst, hZ.x e2 hst1 (fun _ z => by cases z), g, lc, wc, hw, hmm, lm, n3, w1, w3, ne.1, ne.2, zst, ctx_ne c1 nmm⟩
  refine ⟨?_⟩
  exact k72_9 b q
end
/-- the columns -/
def csW (L : List Str) (i0 w i : Nat) (z0 : Str) : List Col := (List.range i).map fun k : Nat => (L.getD k z0, if k = i0 then (w : Int) else 1)
theorem csW_nm {L : List Str} {i0 w : Nat} {z0 : Str} : (csW L i0 w L.length z0).map (fun c => c.1) = L := by
  unfold csW
  rw [List.map_map]
  refine List.ext_getElem? fun i => ?_
  rw [List.getElem?_map]
  by_cases h : i < L.length
  · rw [List.getElem?_range h, List.getElem?_eq_getElem h]
    show some (L.getD i z0) = _
    rw [List.getD_eq_getElem?_getD, List.getElem?_eq_getElem h]; rfl
  · rw [List.getElem?_eq_none (by rw [List.length_range]; omega), List.getElem?_eq_none (by omega)]; rfl
theorem pure_law {K : Frag} (vs : List V) (H : Hp) (Q : VK) (E : XK) (h : sp_law K vs H Q E) : t_law K E { nx := fun _ H' => Q .non H', rt := Q } (start ["_law_script", "_law_state", "_law_names_here", "_law_size", "_law_width", "_law_at", "_law_columns", "_law_k", "_law_slices_here", "_law_masks", "_law_asked", "_law_many", "_law_top", "_law_path", "_law_store", "_law_told", "_law_chosen", "_law_grid", "_law_piece", "_law_mask", "_law_due", "_law_other", "_law_again", "_law_j", "_law_row"] vs) H := by
  obtain ⟨a, ns, rfl, hs, qq⟩ := h
  walk_at "gx"
  refine ⟨fun st nst => ?_⟩
  have c1 : Ctx K (upd H st (.lst [.int 0, .int 0, .int 0, .int 0])) a st := ctx0 hs nst _ ⟨0, 0, 0, 0, rfl, by decide, by decide, .inl rfl⟩
  generalize upd H st (.lst [.int 0, .int 0, .int 0, .int 0]) = H1 at *
  walk_at "gx"
  refine ⟨a, st, _, rfl, c1, by decide, fun d1 H2 d10 d11 c2 e2 => ?_⟩
  have d11 : d1 < 3 := d11
  walk_at "gx"
  refine ⟨a, st, _, rfl, c2, by omega, by omega, fun nm L H3 nnm hL lL ndL okL c3 e3 => ?_⟩
  have nmst := ctx_ne c2 nnm
  have lL : (L.length : Int) = 1 + d1 := lL
  refine ⟨?_⟩
  walk_at "gx"
  refine ⟨a, st, _, rfl, c3, by decide, fun n' H4 n0 n1 c4 e4 => ?_⟩
  obtain ⟨n, rfl⟩ : ∃ t : Nat, n' = t := ⟨n'.toNat, by omega⟩
  have n1 : (n : Int) < 4 := n1
  refine ⟨?_⟩
  walk_at "gx"
  refine ⟨fun g ng => ?_⟩
  have e5 := same_new (o := .lst [V.int 3, .int 3, .int 3, .int 2]) ng
  have hg : upd H4 g (.lst [V.int 3, .int 3, .int 3, .int 2]) g = some (.lst [.int 3, .int 3, .int 3, .int 2]) := upd_same
  have c5 := c4.same e5
  have gst := ctx_ne c4 ng
  generalize upd H4 g (.lst [V.int 3, .int 3, .int 3, .int 2]) = H5 at *
  obtain ⟨u, hu, u1, u3⟩ : ∃ u : Int, L2.atI [V.int 3, .int 3, .int 3, .int 2] ((n : Nat) : Int) = some (.int u) ∧ 1 ≤ u ∧ u ≤ 3 := by
    rcases n with _ | _ | _ | _ | n
    · exact ⟨3, rfl, by decide, by decide⟩
    · exact ⟨3, rfl, by decide, by decide⟩
    · exact ⟨3, rfl, by decide, by decide⟩
    · exact ⟨2, rfl, by decide, by decide⟩
    · omega
  walk_at "gx"
  refine ⟨a, st, _, rfl, c5, by omega, fun w' H6 w0 w1 c6 e6 => ?_⟩
  have w1 : w' < u := w1
  walk_at "gx"
  have sL : SameX st H3 H6 := ((e4.then e5).trans e6)
  have hL6 := sL _ _ hL nmst
  have lmL : (L.map V.str).length = L.length := List.length_map ..
  walk_at "gx"
  refine ⟨a, st, _, rfl, c6, by rw [lmL]; omega, fun i' H7 i0 i1 c7 e7 => ?_⟩
  have i1 : i' < ((L.map V.str).length : Nat) := i1
  rw [lmL] at i1
  obtain ⟨i0', rfl⟩ : ∃ t : Nat, i' = t := ⟨i'.toNat, by omega⟩
  obtain ⟨w, rfl⟩ : ∃ t : Nat, w' = t := ⟨w'.toNat, by omega⟩
  obtain ⟨z0, hz0⟩ : ∃ z, L[i0']? = some z := ⟨_, List.getElem?_eq_getElem (by omega)⟩
  have hL7 := e7 _ _ hL6 nmst
  refine ⟨?_⟩
  walk_at "gx"
  refine ⟨fun p np => ?_⟩
  have e8 := same_new (o := .lst ([] : List V)) np
  have hp : upd H7 p (.lst ([] : List V)) p = some (.lst []) := upd_same
  have c8 := c7.same e8
  have pst := ctx_ne c7 np
  generalize upd H7 p (.lst ([] : List V)) = H8 at *
  have hL8 := e8 _ _ hL7
  have ew : (1 : Int) + (w : Int) = ((1 + w : Nat) : Int) := by omega
  refine ⟨?_⟩
  walk_at "gx"
  rw [lmL, ew]
  refine for_rng (fun i σ Z => ∃ (ys : List V) (x7 : Option V), σ = [some (.ref a), some (.ref st), some (.ref nm), some (.int (n : Int)), some (.int ((1 + w : Nat) : Int)), some (.int (i0' : Int)), some (.ref p), x7, none, none, none, none, none, none, none, none, none, none, none, none, none, none, none, none, none] ∧ Same H7 Z ∧ Z p = some (.lst ys) ∧ Cols K Z ys (csW L i0' (1 + w) i z0) ∧ ys.length = i)
    ⟨[], none, rfl, e8, hp, .nil, rfl⟩ ?_ ?_
  · rintro i σ Z hi ⟨ys, x7, rfl, eZ, hpZ, hCZ, lys⟩
    have hi : i < L.length := by omega
    have hLZ := eZ _ _ hL7
    obtain ⟨zi, hzi⟩ : ∃ z, L[i]? = some z := ⟨_, List.getElem?_eq_getElem hi⟩
    have ati : L2.atI (L.map V.str) ((i : Nat) : Int) = some (.str zi) := L2.atI_nat (by rw [List.getElem?_map, hzi]; rfl)
    walk_at "gx"
    refine ⟨fun g2 ng2 => ?_⟩
    have e9 := same_new (o := .lst [V.int 1, .int ((1 + w : Nat) : Int)]) ng2
    have hg2 : upd Z g2 (.lst [V.int 1, .int ((1 + w : Nat) : Int)]) g2 = some (.lst [.int 1, .int ((1 + w : Nat) : Int)]) := upd_same
    generalize upd Z g2 (.lst [V.int 1, .int ((1 + w : Nat) : Int)]) = Z1 at *
    have lz : ys.length < sizeLine := by rw [sizeLine_eq]; omega
    have eC : csW L i0' (1 + w) (i + 1) z0 = csW L i0' (1 + w) i z0 ++ [(zi, if i = i0' then ((1 + w : Nat) : Int) else 1)] := by
      unfold csW
      rw [List.range_succ, List.map_append]
      show _ ++ [(L.getD i z0, _)] = _
      rw [List.getD_eq_getElem?_getD, hzi]; rfl
    have fin : ∀ v : Int, v = (if i = i0' then ((1 + w : Nat) : Int) else 1) → ∀ t (Z2 : Hp), Same Z1 Z2 → Z2 t = some (.tup [.str zi, .int v]) → t ≠ p → ∃ (ys' : List V) (x7 : Option V), [some (V.ref a), some (.ref st), some (.ref nm), some (.int (n : Int)), some (.int ((1 + w : Nat) : Int)), some (.int (i0' : Int)), some (.ref p), some (.int (i : Int)), none, none, none, none, none, none, none, none, none, none, none, none, none, none, none, none, none] = [some (.ref a), some (.ref st), some (.ref nm), some (.int (n : Int)), some (.int ((1 + w : Nat) : Int)), some (.int (i0' : Int)), some (.ref p), x7, none, none, none, none, none, none, none, none, none, none, none, none, none, none, none, none, none] ∧ Same H7 (upd Z2 p (.lst (ys ++ [.ref t]))) ∧ upd Z2 p (.lst (ys ++ [.ref t])) p = some (.lst ys') ∧ Cols K (upd Z2 p (.lst (ys ++ [.ref t]))) ys' (csW L i0' (1 + w) (i + 1) z0) ∧ ys'.length = i + 1 := fun v hv t Z2 e hT ntp => by
      have ex : SameX p Z2 (upd Z2 p (.lst (ys ++ [.ref t]))) := SameX.upd
      have hp2 := e _ _ (e9 _ _ hpZ)
      refine ⟨ys ++ [.ref t], _, rfl, Same.mut ((eZ.trans e9).trans e) np, upd_same, ?_, by rw [List.length_append, lys]; rfl⟩
      rw [eC]
      refine cols_snoc ((hCZ.same (e9.trans e)).x ex hp2) ⟨t, rfl, SqT.of ?_⟩
      rw [upd_ne ntp, hT, hv]
    by_cases hii : i = i0'
    · have hb : decide (((i : Nat) : Int) = ((i0' : Nat) : Int)) = true := decide_eq_true (by omega)
      rw [if_pos hii] at fin
      have at1 : L2.atI [V.int 1, .int ((1 + w : Nat) : Int)] 1 = some (.int ((1 + w : Nat) : Int)) := rfl
      walk_at "gx"
      rw [hb]
      refine S.At.of at1 ?_
      walk_at "gx"
      refine ⟨fun t nt => ?_⟩
      have e10 := same_new (o := .tup [V.str zi, .int ((1 + w : Nat) : Int)]) nt
      have ht : upd Z1 t (.tup [V.str zi, .int ((1 + w : Nat) : Int)]) t = some (.tup [.str zi, .int ((1 + w : Nat) : Int)]) := upd_same
      generalize upd Z1 t (.tup [V.str zi, .int ((1 + w : Nat) : Int)]) = Z2 at *
      have hp2 := e10 _ _ (e9 _ _ hpZ)
      have ntp : t ≠ p := fun y => by rw [y, e9 _ _ hpZ] at nt; cases nt
      walk_at "gx"
      obtain ⟨ys', x7', h1, h2⟩ := fin _ rfl t Z2 e10 ht ntp
      exact ⟨ys', _, rfl, h2⟩
    · have hb : decide (((i : Nat) : Int) = ((i0' : Nat) : Int)) = false := decide_eq_false (by omega)
      rw [if_neg hii] at fin
      have at1 : L2.atI [V.int 1, .int ((1 + w : Nat) : Int)] 0 = some (.int 1) := rfl
      walk_at "gx"
      rw [hb]
      refine S.At.of at1 ?_
      walk_at "gx"
      refine ⟨fun t nt => ?_⟩
      have e10 := same_new (o := .tup [V.str zi, .int 1]) nt
      have ht : upd Z1 t (.tup [V.str zi, .int 1]) t = some (.tup [.str zi, .int 1]) := upd_same
      generalize upd Z1 t (.tup [V.str zi, .int 1]) = Z2 at *
      have hp2 := e10 _ _ (e9 _ _ hpZ)
      have ntp : t ≠ p := fun y => by rw [y, e9 _ _ hpZ] at nt; cases nt
      walk_at "gx"
      obtain ⟨ys', x7', h1, h2⟩ := fin _ rfl t Z2 e10 ht ntp
      exact ⟨ys', _, rfl, h2⟩
  · rintro σ Z ⟨ys, x7, rfl, eZ, hpZ, hCZ, lys⟩
    rw [Int.toNat_natCast] at hCZ lys
    refine ⟨?_⟩
    have gn := csW_nm (L := L) (i0 := i0') (w := 1 + w) (z0 := z0)
    have hcs : ∀ c ∈ csW L i0' (1 + w) L.length z0, c.1 ∈ L ∧ 1 ≤ c.2 ∧ c.2 ≤ 3 := fun c hc => by
      refine ⟨by rw [← gn]; exact List.mem_map.mpr ⟨c, hc, rfl⟩, ?_⟩
      obtain ⟨j, hj, rfl⟩ := List.mem_map.mp hc
      show 1 ≤ (if j = i0' then ((1 + w : Nat) : Int) else 1) ∧ (if j = i0' then ((1 + w : Nat) : Int) else 1) ≤ 3
      split <;> omega
    have hwz : (z0, ((1 + w : Nat) : Int)) ∈ csW L i0' (1 + w) L.length z0 := by
      refine List.mem_map.mpr ⟨i0', List.mem_range.mpr (by omega), ?_⟩
      rw [if_pos rfl, List.getD_eq_getElem?_getD, hz0]; rfl
    obtain ⟨l7, hst7⟩ := ctx_st c7
    refine k72_7 (i0 := i0') (z0 := z0) (c7.same eZ) (eZ _ _ hL7) hz0 hpZ hCZ ⟨by rw [gn]; exact ndL, fun c hc => ⟨okL _ (hcs c hc).1, (hcs c hc).2.1⟩⟩ ?_ (fun c hc => (hcs c hc).2.2) hwz (by omega) (by omega) (by omega) ⟨nmst, pst⟩ qq
    unfold csW
    rw [List.length_map, List.length_range]
    omega
end S

namespace S
open PySem PySem.Spec PyProof.Rows L2
theorem sc__law_draw : FnScope ["_law_script", "_law_state", "_law_base", "_law_here", "_law_number", "_law_digit", "_law_mixed"] ["_law_script", "_law_state", "_law_base"] (defScope s__law_draw) := ⟨rfl, rfl, rfl, by decide +kernel, rfl, by decide +kernel, by decide +kernel⟩
theorem sc__law_names : FnScope ["_law_script", "_law_state", "_law_count", "_law_letters", "_law_names_here", "_law_k", "_law_head", "_law_j", "_law_tail", "_law_name", "_law_word"] ["_law_script", "_law_state", "_law_count"] (defScope s__law_names) := ⟨rfl, rfl, rfl, by decide +kernel, rfl, by decide +kernel, by decide +kernel⟩
theorem sc__law_slices : FnScope ["_law_columns", "_law_slices_here", "_law_column", "_law_place"] ["_law_columns"] (defScope s__law_slices) := ⟨rfl, rfl, rfl, by decide +kernel, rfl, by decide +kernel, by decide +kernel⟩
theorem sc_Bitmapdd_initdd : FnScope ["self", "size", "ends", "last", "end"] ["self", "size", "ends"] (defScope s_Bitmapdd_initdd) := ⟨rfl, rfl, rfl, by decide +kernel, rfl, by decide +kernel, by decide +kernel⟩
theorem sc__law_bitmap : FnScope ["_law_mask", "_law_size", "_law_ends", "_law_row"] ["_law_mask", "_law_size"] (defScope s__law_bitmap) := ⟨rfl, rfl, rfl, by decide +kernel, rfl, by decide +kernel, by decide +kernel⟩
theorem sc_is_name : FnScope ["text", "char"] ["text"] (defScope s_is_name) := ⟨rfl, rfl, rfl, by decide +kernel, rfl, by decide +kernel, by decide +kernel⟩
theorem sc_Schemadd_initdd : FnScope ["self", "columns", "kept", "names", "name", "width"] ["self", "columns"] (defScope s_Schemadd_initdd) := ⟨rfl, rfl, rfl, by decide +kernel, rfl, by decide +kernel, by decide +kernel⟩
theorem sc_Schema_all_slices : FnScope ["self", "name", "width", "place"] ["self"] (defScope s_Schema_all_slices) := ⟨rfl, rfl, rfl, by decide +kernel, rfl, by decide +kernel, by decide +kernel⟩
theorem sc_Storedd_initdd : FnScope ["self", "schema", "size", "held", "kept", "piece"] ["self", "schema", "size", "held"] (defScope s_Storedd_initdd) := ⟨rfl, rfl, rfl, by decide +kernel, rfl, by decide +kernel, by decide +kernel⟩
theorem sc__law_mask_store : FnScope ["_law_columns", "_law_slices_here", "_law_size", "_law_masks", "_law_held", "_law_k"] ["_law_columns", "_law_slices_here", "_law_size", "_law_masks"] (defScope s__law_mask_store) := ⟨rfl, rfl, rfl, by decide +kernel, rfl, by decide +kernel, by decide +kernel⟩
theorem sc_Schema_width_of : FnScope ["self", "name", "known", "width"] ["self", "name"] (defScope s_Schema_width_of) := ⟨rfl, rfl, rfl, by decide +kernel, rfl, by decide +kernel, by decide +kernel⟩
theorem sc_turned : FnScope ["ends", "size"] ["ends", "size"] (defScope s_turned) := ⟨rfl, rfl, rfl, by decide +kernel, rfl, by decide +kernel, by decide +kernel⟩
theorem sc_Bitmap_full : FnScope ["size"] ["size"] (defScope s_Bitmap_full) := ⟨rfl, rfl, rfl, by decide +kernel, rfl, by decide +kernel, by decide +kernel⟩
theorem sc_Bitmap_empty : FnScope ["size"] ["size"] (defScope s_Bitmap_empty) := ⟨rfl, rfl, rfl, by decide +kernel, rfl, by decide +kernel, by decide +kernel⟩
theorem sc_Bitmapdd_booldd : FnScope ["self"] ["self"] (defScope s_Bitmapdd_booldd) := ⟨rfl, rfl, rfl, by decide +kernel, rfl, by decide +kernel, by decide +kernel⟩
theorem sc_Store_fetch : FnScope ["self", "name", "place", "width"] ["self", "name", "place"] (defScope s_Store_fetch) := ⟨rfl, rfl, rfl, by decide +kernel, rfl, by decide +kernel, by decide +kernel⟩
theorem sc_next_end : FnScope ["one", "i", "other", "j"] ["one", "i", "other", "j"] (defScope s_next_end) := ⟨rfl, rfl, rfl, by decide +kernel, rfl, by decide +kernel, by decide +kernel⟩
theorem sc_swept : FnScope ["one", "other", "rule", "ends", "i", "j", "first", "second", "bit", "at"] ["one", "other", "rule"] (defScope s_swept) := ⟨rfl, rfl, rfl, by decide +kernel, rfl, by decide +kernel, by decide +kernel⟩
theorem sc_Bitmap_paired : FnScope ["self", "other", "rule"] ["self", "other", "rule"] (defScope s_Bitmap_paired) := ⟨rfl, rfl, rfl, by decide +kernel, rfl, by decide +kernel, by decide +kernel⟩
theorem sc_Bitmapdd_anddd : FnScope ["self", "other"] ["self", "other"] (defScope s_Bitmapdd_anddd) := ⟨rfl, rfl, rfl, by decide +kernel, rfl, by decide +kernel, by decide +kernel⟩
theorem sc_Bitmap_rank : FnScope ["self", "row", "below", "k", "end"] ["self", "row"] (defScope s_Bitmap_rank) := ⟨rfl, rfl, rfl, by decide +kernel, rfl, by decide +kernel, by decide +kernel⟩
theorem sc_Bitmap_ones : FnScope ["self"] ["self"] (defScope s_Bitmap_ones) := ⟨rfl, rfl, rfl, by decide +kernel, rfl, by decide +kernel, by decide +kernel⟩
theorem sc_Bitmapdd_subdd : FnScope ["self", "other"] ["self", "other"] (defScope s_Bitmapdd_subdd) := ⟨rfl, rfl, rfl, by decide +kernel, rfl, by decide +kernel, by decide +kernel⟩
theorem sc_Bitmapdd_invertdd : FnScope ["self"] ["self"] (defScope s_Bitmapdd_invertdd) := ⟨rfl, rfl, rfl, by decide +kernel, rfl, by decide +kernel, by decide +kernel⟩
theorem sc_Bitmapdd_ordd : FnScope ["self", "other"] ["self", "other"] (defScope s_Bitmapdd_ordd) := ⟨rfl, rfl, rfl, by decide +kernel, rfl, by decide +kernel, by decide +kernel⟩
theorem sc_Bitmap_runs : GScope ["self", "start", "end"] ["self"] (defScope s_Bitmap_runs) := ⟨rfl, rfl, rfl, by decide +kernel, rfl, by decide +kernel, by decide +kernel⟩
theorem sc_Bitmap_nth : FnScope ["self", "k", "left", "row", "start", "stop"] ["self", "k"] (defScope s_Bitmap_nth) := ⟨rfl, rfl, rfl, by decide +kernel, rfl, by decide +kernel, by decide +kernel⟩
theorem sc_Bitmap_span : FnScope ["size", "start", "stop"] ["size", "start", "stop"] (defScope s_Bitmap_span) := ⟨rfl, rfl, rfl, by decide +kernel, rfl, by decide +kernel, by decide +kernel⟩
theorem sc_Bitmap_first : FnScope ["self", "k"] ["self", "k"] (defScope s_Bitmap_first) := ⟨rfl, rfl, rfl, by decide +kernel, rfl, by decide +kernel, by decide +kernel⟩
theorem sc_first_rows : FnScope ["store", "name", "k", "rows", "largest", "width", "chosen", "used", "undecided", "wanted", "place", "bitmap", "ahead"] ["store", "name", "k", "rows", "largest"] (defScope s_first_rows) := ⟨rfl, rfl, rfl, by decide +kernel, rfl, by decide +kernel, by decide +kernel⟩
theorem sc__law_choice : FnScope ["_law_grid", "_law_chosen", "_law_k", "_law_top", "_law_keys", "_law_j", "_law_value", "_law_bits", "_law_key"] ["_law_grid", "_law_chosen", "_law_k", "_law_top"] (defScope s__law_choice) := ⟨rfl, rfl, rfl, by decide +kernel, rfl, by decide +kernel, by decide +kernel⟩
theorem sc__law_settled : FnScope ["_law_grid", "_law_fixed", "_law_chosen", "_law_k", "_law_top", "_law_many", "_law_first", "_law_number", "_law_tried", "_law_s", "_law_picked", "_law_j"] ["_law_grid", "_law_fixed", "_law_chosen", "_law_k", "_law_top"] (defScope s__law_settled) := ⟨rfl, rfl, rfl, by decide +kernel, rfl, by decide +kernel, by decide +kernel⟩
theorem sc__law_least : FnScope ["_law_grid", "_law_chosen", "_law_k", "_law_top", "_law_least_here", "_law_j", "_law_fixed"] ["_law_grid", "_law_chosen", "_law_k", "_law_top"] (defScope s__law_least) := ⟨rfl, rfl, rfl, by decide +kernel, rfl, by decide +kernel, by decide +kernel⟩
theorem sc__law_is_number : FnScope ["_law_x"] ["_law_x"] (defScope s__law_is_number) := ⟨rfl, rfl, rfl, by decide +kernel, rfl, by decide +kernel, by decide +kernel⟩
theorem sc_Bitmapdd_containsdd : FnScope ["self", "row", "end"] ["self", "row"] (defScope s_Bitmapdd_containsdd) := ⟨rfl, rfl, rfl, by decide +kernel, rfl, by decide +kernel, by decide +kernel⟩
theorem sc__law_is_set : FnScope ["_law_bitmap_here", "_law_size", "_law_due", "_law_row"] ["_law_bitmap_here", "_law_size", "_law_due"] (defScope s__law_is_set) := ⟨rfl, rfl, rfl, by decide +kernel, rfl, by decide +kernel, by decide +kernel⟩
theorem sc_law : FnScope ["_law_script", "_law_state", "_law_names_here", "_law_size", "_law_width", "_law_at", "_law_columns", "_law_k", "_law_slices_here", "_law_masks", "_law_asked", "_law_many", "_law_top", "_law_path", "_law_store", "_law_told", "_law_chosen", "_law_grid", "_law_piece", "_law_mask", "_law_due", "_law_other", "_law_again", "_law_j", "_law_row"] ["_law_script"] (defScope s_law) := ⟨rfl, rfl, rfl, by decide +kernel, rfl, by decide +kernel, by decide +kernel⟩
structure T0 (P : Program) (K : Frag) (mg : Str → Option Value) : Prop where
  n_abs : mg "abs" = none
  n_bool : mg "bool" = none
  n_enumerate : mg "enumerate" = none
  n_int : mg "int" = none
  n_isinstance : mg "isinstance" = none
  n_len : mg "len" = none
  n_list : mg "list" = none
  n_range : mg "range" = none
  n_sorted : mg "sorted" = none
  n_super : mg "super" = none
  n_tuple : mg "tuple" = none
  g_AND : mg "AND" = some (.ref (He.ga K "AND"))
  g_BadBitmap : mg "BadBitmap" = some (.ref (He.ga K "BadBitmap"))
  g_BadSchema : mg "BadSchema" = some (.ref (He.ga K "BadSchema"))
  g_Bitmap : mg "Bitmap" = some (.ref (He.ga K "Bitmap"))
  g_LESS : mg "LESS" = some (.ref (He.ga K "LESS"))
  g_NoSuchColumn : mg "NoSuchColumn" = some (.ref (He.ga K "NoSuchColumn"))
  g_NoSuchRank : mg "NoSuchRank" = some (.ref (He.ga K "NoSuchRank"))
  g_NoSuchRow : mg "NoSuchRow" = some (.ref (He.ga K "NoSuchRow"))
  g_NoSuchSlice : mg "NoSuchSlice" = some (.ref (He.ga K "NoSuchSlice"))
  g_OR : mg "OR" = some (.ref (He.ga K "OR"))
  g_Schema : mg "Schema" = some (.ref (He.ga K "Schema"))
  g_SizesDiffer : mg "SizesDiffer" = some (.ref (He.ga K "SizesDiffer"))
  g_Store : mg "Store" = some (.ref (He.ga K "Store"))
  g__law_bitmap : mg "_law_bitmap" = some (.ref (He.ga K "_law_bitmap"))
  g__law_choice : mg "_law_choice" = some (.ref (He.ga K "_law_choice"))
  g__law_draw : mg "_law_draw" = some (.ref (He.ga K "_law_draw"))
  g__law_is_number : mg "_law_is_number" = some (.ref (He.ga K "_law_is_number"))
  g__law_is_set : mg "_law_is_set" = some (.ref (He.ga K "_law_is_set"))
  g__law_least : mg "_law_least" = some (.ref (He.ga K "_law_least"))
  g__law_mask_store : mg "_law_mask_store" = some (.ref (He.ga K "_law_mask_store"))
  g__law_names : mg "_law_names" = some (.ref (He.ga K "_law_names"))
  g__law_settled : mg "_law_settled" = some (.ref (He.ga K "_law_settled"))
  g__law_slices : mg "_law_slices" = some (.ref (He.ga K "_law_slices"))
  g_first_rows : mg "first_rows" = some (.ref (He.ga K "first_rows"))
  g_is_name : mg "is_name" = some (.ref (He.ga K "is_name"))
  g_law : mg "law" = some (.ref (He.ga K "law"))
  g_next_end : mg "next_end" = some (.ref (He.ga K "next_end"))
  g_swept : mg "swept" = some (.ref (He.ga K "swept"))
  g_turned : mg "turned" = some (.ref (He.ga K "turned"))
  F__law_draw : ∃ fd, FunD K "_law_draw" "_law_draw" (defArgs s__law_draw) (defBody s__law_draw) (defScope s__law_draw) [] [] (He.fAd K ("_law_draw", none)) fd
  k__law_draw : PySem.W.keepIn K (.ref (He.fAd K ("_law_draw", none))) = true
  F__law_names : ∃ fd, FunD K "_law_names" "_law_names" (defArgs s__law_names) (defBody s__law_names) (defScope s__law_names) [] [] (He.fAd K ("_law_names", none)) fd
  k__law_names : PySem.W.keepIn K (.ref (He.fAd K ("_law_names", none))) = true
  F__law_slices : ∃ fd, FunD K "_law_slices" "_law_slices" (defArgs s__law_slices) (defBody s__law_slices) (defScope s__law_slices) [] [] (He.fAd K ("_law_slices", none)) fd
  k__law_slices : PySem.W.keepIn K (.ref (He.fAd K ("_law_slices", none))) = true
  F_Bitmapdd_initdd : ∃ fd, FunD K "__init__" "Bitmap.__init__" (defArgs s_Bitmapdd_initdd) (defBody s_Bitmapdd_initdd) (defScope s_Bitmapdd_initdd) [V.ref (He.dflAt ("Bitmap", some "__init__") 0 K)] [] (He.fAd K ("Bitmap", some "__init__")) fd
  k_Bitmapdd_initdd : PySem.W.keepIn K (.ref (He.fAd K ("Bitmap", some "__init__"))) = true
  F__law_bitmap : ∃ fd, FunD K "_law_bitmap" "_law_bitmap" (defArgs s__law_bitmap) (defBody s__law_bitmap) (defScope s__law_bitmap) [] [] (He.fAd K ("_law_bitmap", none)) fd
  k__law_bitmap : PySem.W.keepIn K (.ref (He.fAd K ("_law_bitmap", none))) = true
  F_is_name : ∃ fd, FunD K "is_name" "is_name" (defArgs s_is_name) (defBody s_is_name) (defScope s_is_name) [] [] (He.fAd K ("is_name", none)) fd
  k_is_name : PySem.W.keepIn K (.ref (He.fAd K ("is_name", none))) = true
  F_Schemadd_initdd : ∃ fd, FunD K "__init__" "Schema.__init__" (defArgs s_Schemadd_initdd) (defBody s_Schemadd_initdd) (defScope s_Schemadd_initdd) [] [] (He.fAd K ("Schema", some "__init__")) fd
  k_Schemadd_initdd : PySem.W.keepIn K (.ref (He.fAd K ("Schema", some "__init__"))) = true
  F_Schema_all_slices : ∃ fd, FunD K "all_slices" "Schema.all_slices" (defArgs s_Schema_all_slices) (defBody s_Schema_all_slices) (defScope s_Schema_all_slices) [] [] (He.fAd K ("Schema", some "all_slices")) fd
  k_Schema_all_slices : PySem.W.keepIn K (.ref (He.fAd K ("Schema", some "all_slices"))) = true
  F_Storedd_initdd : ∃ fd, FunD K "__init__" "Store.__init__" (defArgs s_Storedd_initdd) (defBody s_Storedd_initdd) (defScope s_Storedd_initdd) [] [] (He.fAd K ("Store", some "__init__")) fd
  k_Storedd_initdd : PySem.W.keepIn K (.ref (He.fAd K ("Store", some "__init__"))) = true
  F__law_mask_store : ∃ fd, FunD K "_law_mask_store" "_law_mask_store" (defArgs s__law_mask_store) (defBody s__law_mask_store) (defScope s__law_mask_store) [] [] (He.fAd K ("_law_mask_store", none)) fd
  k__law_mask_store : PySem.W.keepIn K (.ref (He.fAd K ("_law_mask_store", none))) = true
  F_Schema_width_of : ∃ fd, FunD K "width_of" "Schema.width_of" (defArgs s_Schema_width_of) (defBody s_Schema_width_of) (defScope s_Schema_width_of) [] [] (He.fAd K ("Schema", some "width_of")) fd
  k_Schema_width_of : PySem.W.keepIn K (.ref (He.fAd K ("Schema", some "width_of"))) = true
  F_turned : ∃ fd, FunD K "turned" "turned" (defArgs s_turned) (defBody s_turned) (defScope s_turned) [] [] (He.fAd K ("turned", none)) fd
  k_turned : PySem.W.keepIn K (.ref (He.fAd K ("turned", none))) = true
  F_Bitmap_full : ∃ fd, FunD K "full" "Bitmap.full" (defArgs s_Bitmap_full) (defBody s_Bitmap_full) (defScope s_Bitmap_full) [] [] (uA K "Bitmap" "full") fd
  k_Bitmap_full : PySem.W.keepIn K (.ref (uA K "Bitmap" "full")) = true
  F_Bitmap_empty : ∃ fd, FunD K "empty" "Bitmap.empty" (defArgs s_Bitmap_empty) (defBody s_Bitmap_empty) (defScope s_Bitmap_empty) [] [] (uA K "Bitmap" "empty") fd
  k_Bitmap_empty : PySem.W.keepIn K (.ref (uA K "Bitmap" "empty")) = true
  F_Bitmapdd_booldd : ∃ fd, FunD K "__bool__" "Bitmap.__bool__" (defArgs s_Bitmapdd_booldd) (defBody s_Bitmapdd_booldd) (defScope s_Bitmapdd_booldd) [] [] (He.fAd K ("Bitmap", some "__bool__")) fd
  k_Bitmapdd_booldd : PySem.W.keepIn K (.ref (He.fAd K ("Bitmap", some "__bool__"))) = true
  F_Store_fetch : ∃ fd, FunD K "fetch" "Store.fetch" (defArgs s_Store_fetch) (defBody s_Store_fetch) (defScope s_Store_fetch) [] [] (He.fAd K ("Store", some "fetch")) fd
  k_Store_fetch : PySem.W.keepIn K (.ref (He.fAd K ("Store", some "fetch"))) = true
  F_next_end : ∃ fd, FunD K "next_end" "next_end" (defArgs s_next_end) (defBody s_next_end) (defScope s_next_end) [] [] (He.fAd K ("next_end", none)) fd
  k_next_end : PySem.W.keepIn K (.ref (He.fAd K ("next_end", none))) = true
  F_swept : ∃ fd, FunD K "swept" "swept" (defArgs s_swept) (defBody s_swept) (defScope s_swept) [] [] (He.fAd K ("swept", none)) fd
  k_swept : PySem.W.keepIn K (.ref (He.fAd K ("swept", none))) = true
  F_Bitmap_paired : ∃ fd, FunD K "paired" "Bitmap.paired" (defArgs s_Bitmap_paired) (defBody s_Bitmap_paired) (defScope s_Bitmap_paired) [] [] (He.fAd K ("Bitmap", some "paired")) fd
  k_Bitmap_paired : PySem.W.keepIn K (.ref (He.fAd K ("Bitmap", some "paired"))) = true
  F_Bitmapdd_anddd : ∃ fd, FunD K "__and__" "Bitmap.__and__" (defArgs s_Bitmapdd_anddd) (defBody s_Bitmapdd_anddd) (defScope s_Bitmapdd_anddd) [] [] (He.fAd K ("Bitmap", some "__and__")) fd
  k_Bitmapdd_anddd : PySem.W.keepIn K (.ref (He.fAd K ("Bitmap", some "__and__"))) = true
  F_Bitmap_rank : ∃ fd, FunD K "rank" "Bitmap.rank" (defArgs s_Bitmap_rank) (defBody s_Bitmap_rank) (defScope s_Bitmap_rank) [] [] (He.fAd K ("Bitmap", some "rank")) fd
  k_Bitmap_rank : PySem.W.keepIn K (.ref (He.fAd K ("Bitmap", some "rank"))) = true
  F_Bitmap_ones : ∃ fd, FunD K "ones" "Bitmap.ones" (defArgs s_Bitmap_ones) (defBody s_Bitmap_ones) (defScope s_Bitmap_ones) [] [] (uA K "Bitmap" "ones") fd
  k_Bitmap_ones : PySem.W.keepIn K (.ref (uA K "Bitmap" "ones")) = true
  F_Bitmapdd_subdd : ∃ fd, FunD K "__sub__" "Bitmap.__sub__" (defArgs s_Bitmapdd_subdd) (defBody s_Bitmapdd_subdd) (defScope s_Bitmapdd_subdd) [] [] (He.fAd K ("Bitmap", some "__sub__")) fd
  k_Bitmapdd_subdd : PySem.W.keepIn K (.ref (He.fAd K ("Bitmap", some "__sub__"))) = true
  F_Bitmapdd_invertdd : ∃ fd, FunD K "__invert__" "Bitmap.__invert__" (defArgs s_Bitmapdd_invertdd) (defBody s_Bitmapdd_invertdd) (defScope s_Bitmapdd_invertdd) [] [] (He.fAd K ("Bitmap", some "__invert__")) fd
  k_Bitmapdd_invertdd : PySem.W.keepIn K (.ref (He.fAd K ("Bitmap", some "__invert__"))) = true
  F_Bitmapdd_ordd : ∃ fd, FunD K "__or__" "Bitmap.__or__" (defArgs s_Bitmapdd_ordd) (defBody s_Bitmapdd_ordd) (defScope s_Bitmapdd_ordd) [] [] (He.fAd K ("Bitmap", some "__or__")) fd
  k_Bitmapdd_ordd : PySem.W.keepIn K (.ref (He.fAd K ("Bitmap", some "__or__"))) = true
  F_Bitmap_runs : ∃ fd, FunD K "runs" "Bitmap.runs" (defArgs s_Bitmap_runs) (defBody s_Bitmap_runs) (defScope s_Bitmap_runs) [] [] (He.fAd K ("Bitmap", some "runs")) fd
  k_Bitmap_runs : PySem.W.keepIn K (.ref (He.fAd K ("Bitmap", some "runs"))) = true
  F_Bitmap_nth : ∃ fd, FunD K "nth" "Bitmap.nth" (defArgs s_Bitmap_nth) (defBody s_Bitmap_nth) (defScope s_Bitmap_nth) [] [] (He.fAd K ("Bitmap", some "nth")) fd
  k_Bitmap_nth : PySem.W.keepIn K (.ref (He.fAd K ("Bitmap", some "nth"))) = true
  F_Bitmap_span : ∃ fd, FunD K "span" "Bitmap.span" (defArgs s_Bitmap_span) (defBody s_Bitmap_span) (defScope s_Bitmap_span) [] [] (uA K "Bitmap" "span") fd
  k_Bitmap_span : PySem.W.keepIn K (.ref (uA K "Bitmap" "span")) = true
  F_Bitmap_first : ∃ fd, FunD K "first" "Bitmap.first" (defArgs s_Bitmap_first) (defBody s_Bitmap_first) (defScope s_Bitmap_first) [] [] (He.fAd K ("Bitmap", some "first")) fd
  k_Bitmap_first : PySem.W.keepIn K (.ref (He.fAd K ("Bitmap", some "first"))) = true
  F_first_rows : ∃ fd, FunD K "first_rows" "first_rows" (defArgs s_first_rows) (defBody s_first_rows) (defScope s_first_rows) [] [("rows", V.non), ("largest", V.bl false)] (He.fAd K ("first_rows", none)) fd
  k_first_rows : PySem.W.keepIn K (.ref (He.fAd K ("first_rows", none))) = true
  F__law_choice : ∃ fd, FunD K "_law_choice" "_law_choice" (defArgs s__law_choice) (defBody s__law_choice) (defScope s__law_choice) [] [] (He.fAd K ("_law_choice", none)) fd
  k__law_choice : PySem.W.keepIn K (.ref (He.fAd K ("_law_choice", none))) = true
  F__law_settled : ∃ fd, FunD K "_law_settled" "_law_settled" (defArgs s__law_settled) (defBody s__law_settled) (defScope s__law_settled) [] [] (He.fAd K ("_law_settled", none)) fd
  k__law_settled : PySem.W.keepIn K (.ref (He.fAd K ("_law_settled", none))) = true
  F__law_least : ∃ fd, FunD K "_law_least" "_law_least" (defArgs s__law_least) (defBody s__law_least) (defScope s__law_least) [] [] (He.fAd K ("_law_least", none)) fd
  k__law_least : PySem.W.keepIn K (.ref (He.fAd K ("_law_least", none))) = true
  F__law_is_number : ∃ fd, FunD K "_law_is_number" "_law_is_number" (defArgs s__law_is_number) (defBody s__law_is_number) (defScope s__law_is_number) [] [] (He.fAd K ("_law_is_number", none)) fd
  k__law_is_number : PySem.W.keepIn K (.ref (He.fAd K ("_law_is_number", none))) = true
  F_Bitmapdd_containsdd : ∃ fd, FunD K "__contains__" "Bitmap.__contains__" (defArgs s_Bitmapdd_containsdd) (defBody s_Bitmapdd_containsdd) (defScope s_Bitmapdd_containsdd) [] [] (He.fAd K ("Bitmap", some "__contains__")) fd
  k_Bitmapdd_containsdd : PySem.W.keepIn K (.ref (He.fAd K ("Bitmap", some "__contains__"))) = true
  F__law_is_set : ∃ fd, FunD K "_law_is_set" "_law_is_set" (defArgs s__law_is_set) (defBody s__law_is_set) (defScope s__law_is_set) [] [] (He.fAd K ("_law_is_set", none)) fd
  k__law_is_set : PySem.W.keepIn K (.ref (He.fAd K ("_law_is_set", none))) = true
  F_law : ∃ fd, FunD K "law" "law" (defArgs s_law) (defBody s_law) (defScope s_law) [] [] (He.fAd K ("law", none)) fd
  k_law : PySem.W.keepIn K (.ref (He.fAd K ("law", none))) = true
  C_Bitmap : CF K "Bitmap" ["ends", "size"]
  D_Schema : DF K "Schema" [] ["columns"]
  D_Store : DF K "Store" [] ["schema", "size", "held", "log"]
  E_Bitmapdd_initdd_0 : EmpT K (V.ref (He.dflAt ("Bitmap", some "__init__") 0 K))
  K_Bitmap : Mk K (He.ga K "Bitmap") (He.fAd K ("Bitmap", some "__init__"))
  K_Schema : Mk K (He.ga K "Schema") (He.fAd K ("Schema", some "__init__"))
  K_Store : Mk K (He.ga K "Store") (He.fAd K ("Store", some "__init__"))
  M_Bitmap_first : Meth K (He.ga K "Bitmap") "first" (He.fAd K ("Bitmap", some "first"))
  M_Bitmap_nth : Meth K (He.ga K "Bitmap") "nth" (He.fAd K ("Bitmap", some "nth"))
  M_Bitmap_paired : Meth K (He.ga K "Bitmap") "paired" (He.fAd K ("Bitmap", some "paired"))
  M_Bitmap_rank : Meth K (He.ga K "Bitmap") "rank" (He.fAd K ("Bitmap", some "rank"))
  M_Bitmap_runs : Meth K (He.ga K "Bitmap") "runs" (He.fAd K ("Bitmap", some "runs"))
  M_Bitmapdd_anddd : Meth K (He.ga K "Bitmap") "__and__" (He.fAd K ("Bitmap", some "__and__"))
  M_Bitmapdd_booldd : Meth K (He.ga K "Bitmap") "__bool__" (He.fAd K ("Bitmap", some "__bool__"))
  M_Bitmapdd_containsdd : Meth K (He.ga K "Bitmap") "__contains__" (He.fAd K ("Bitmap", some "__contains__"))
  M_Bitmapdd_invertdd : Meth K (He.ga K "Bitmap") "__invert__" (He.fAd K ("Bitmap", some "__invert__"))
  M_Bitmapdd_ordd : Meth K (He.ga K "Bitmap") "__or__" (He.fAd K ("Bitmap", some "__or__"))
  M_Bitmapdd_subdd : Meth K (He.ga K "Bitmap") "__sub__" (He.fAd K ("Bitmap", some "__sub__"))
  M_Schema_all_slices : Meth K (He.ga K "Schema") "all_slices" (He.fAd K ("Schema", some "all_slices"))
  M_Schema_width_of : Meth K (He.ga K "Schema") "width_of" (He.fAd K ("Schema", some "width_of"))
  M_Store_fetch : Meth K (He.ga K "Store") "fetch" (He.fAd K ("Store", some "fetch"))
  P_Bitmap_ones : PropF K "Bitmap" "ones" (uA K "Bitmap" "ones")
  R_BadBitmap : RsF K "BadBitmap"
  R_BadSchema : RsF K "BadSchema"
  R_SizesDiffer : RsF K "SizesDiffer"
  St_Bitmap_empty : StF K "Bitmap" "empty"
  St_Bitmap_full : StF K "Bitmap" "full"
  St_Bitmap_span : StF K "Bitmap" "span"
  U_AND : TupG K "AND" [V.int 0, V.int 0, V.int 0, V.int 1]
  U_LESS : TupG K "LESS" [V.int 0, V.int 0, V.int 1, V.int 0]
  U_OR : TupG K "OR" [V.int 0, V.int 1, V.int 1, V.int 1]
  X_BadBitmap : ExF K "BadBitmap" ["SliceError"]
  X_BadSchema : ExF K "BadSchema" ["SliceError"]
  X_NoSuchColumn : ExF K "NoSuchColumn" ["SliceError"]
  X_NoSuchRank : ExF K "NoSuchRank" ["SliceError"]
  X_NoSuchRow : ExF K "NoSuchRow" ["SliceError"]
  X_NoSuchSlice : ExF K "NoSuchSlice" ["SliceError"]
  X_SizesDiffer : ExF K "SizesDiffer" ["SliceError"]
  Xi_NoSuchColumn : ∃ fd, XiF P K "NoSuchColumn" "name" "__init__" "NoSuchColumn.__init__" (defArgs s_NoSuchColumndd_initdd) (defBody s_NoSuchColumndd_initdd) (defScope s_NoSuchColumndd_initdd) (He.fAd K ("NoSuchColumn", some "__init__")) fd
  Xi_NoSuchRank : ∃ fd, XiF P K "NoSuchRank" "number" "__init__" "NoSuchRank.__init__" (defArgs s_NoSuchRankdd_initdd) (defBody s_NoSuchRankdd_initdd) (defScope s_NoSuchRankdd_initdd) (He.fAd K ("NoSuchRank", some "__init__")) fd
  Xi_NoSuchRow : ∃ fd, XiF P K "NoSuchRow" "row" "__init__" "NoSuchRow.__init__" (defArgs s_NoSuchRowdd_initdd) (defBody s_NoSuchRowdd_initdd) (defScope s_NoSuchRowdd_initdd) (He.fAd K ("NoSuchRow", some "__init__")) fd
  Xi_NoSuchSlice : ∃ fd, XiF2 P K "NoSuchSlice" "name" "place" "__init__" "NoSuchSlice.__init__" (defArgs s_NoSuchSlicedd_initdd) (defBody s_NoSuchSlicedd_initdd) (defScope s_NoSuchSlicedd_initdd) (He.fAd K ("NoSuchSlice", some "__init__")) fd
  Z_LETTERS : ∃ t, mg "LETTERS" = some (.str "abcdefghijklmnopqrstuvwxyz" t)
  Z_LONGEST : ∃ t, mg "LONGEST" = some (.int 8 t)
section
variable {P : Program} {w : World} {K : Frag} {mg : Str → Option Value} {base : Heap}
theorem ok__law_draw (T : T0 P K mg) : FR P w K mg base 1 (He.fAd K ("_law_draw", none)) (sp__law_draw K) := by
  obtain ⟨fd, F⟩ := T.F__law_draw
  refine mk_fn F sc__law_draw (fun vs H Q E h => by
    revert h; intro h; (repeat (first | (obtain ⟨rfl, _⟩ := h; exact rfl) | obtain ⟨_, h⟩ := h))) (fun _ _ _ _ _ _ us hl => match us, hl with | [_, _, _], _ => rfl) (t := t__law_draw K) (fun cdv A outer s H E hr => ?_) (fun vs H Q E h => pure__law_draw vs H Q E h)
  exact pss_cons (ps_if (pt_cmp (o_eq hr.units) (pe_ix ix_any (pv 1) (pe_int) (fun _ _ => rfl)) (pe_int) (nomark _)) (pss_cons (ps_set (i := 3) sc__law_draw.nd rfl (Or.inl rfl) (pe_ix ix_any (pv 1) (pe_int) (fun _ _ => rfl)))
    (pss_cons (ps_asg (pe_op o_add (pv 3) (pe_int)) (pg_sub (pv 1) (pe_int) s_list))
    (pss_cons (ps_if (pt_cmp o_ge (pv 3) (pe_cb c_len T.n_len (by decide +kernel) (pa_cons (pv 0) (pa_nil))) (nomark _)) (pss_one (ps_ret (pe_int))) (pss_nil))
    (pss_cons (ps_asg (pe_cb c_abs T.n_abs (by decide +kernel) (pa_cons (pe_ix ix_any (pv 0) (pv 3) (fun _ _ => rfl)) (pa_nil))) (pg_sub (pv 1) (pe_int) s_list))
    (pss_cons (ps_asg (pe_ct c_int T.n_int (by decide +kernel) (pa_cons (pe_cmp o_lt (pe_ix ix_any (pv 0) (pv 3) (fun _ _ => rfl)) (pe_int) (nomark _)) (pa_nil))) (pg_sub (pv 1) (pe_int) s_list))
    (pss_cons (ps_asg (pe_int) (pg_sub (pv 1) (pe_int) s_list))
    (pss_one (ps_if (pt_cmp o_ge (pe_ix ix_any (pv 1) (pe_int) (fun _ _ => rfl)) (pe_op o_pow (pe_int) (pe_int)) (nomark _)) (pss_cons (ps_asg (pe_int) (pg_sub (pv 1) (pe_int) s_list))
    (pss_one (ps_asg (pe_int) (pg_sub (pv 1) (pe_int) s_list)))) (pss_nil))))))))) (pss_nil))
    (pss_stop (pss_cons (ps_asg (pe_op o_sub (pe_ix ix_any (pv 1) (pe_int) (fun _ _ => rfl)) (pe_int)) (pg_sub (pv 1) (pe_int) s_list))
    (pss_stop (pss_cons (ps_set (i := 4) sc__law_draw.nd rfl (Or.inl rfl) (pe_ct c_int T.n_int (by decide +kernel) (pa_cons (pe_ix ix_any (pv 1) (pe_int) (fun _ _ => rfl)) (pa_nil))))
    (pss_stop (pss_cons (ps_if (pt_cmp (o_eq hr.units) (pe_ix ix_any (pv 1) (pe_int) (fun _ _ => rfl)) (pe_int) (nomark _)) (pss_cons (ps_asg (pe_op o_fdiv (pv 4) (pe_int)) (pg_sub (pv 1) (pe_int) s_list))
    (pss_cons (ps_if (pt_cmp (o_eq hr.units) (pe_ix ix_any (pv 1) (pe_int) (fun _ _ => rfl)) (pe_int) (nomark _)) (pss_one (ps_asg (pe_int) (pg_sub (pv 1) (pe_int) s_list))) (pss_nil))
    (pss_cons (ps_set (i := 5) sc__law_draw.nd rfl (Or.inl rfl) (pe_op o_mod (pe_ct c_int T.n_int (by decide +kernel) (pa_cons (pv 4) (pa_nil))) (pe_int)))
    (pss_one (ps_ret (pe_op o_mod (pe_ct c_int T.n_int (by decide +kernel) (pa_cons (pv 5) (pa_nil))) (pv 2))))))) (pss_nil))
    (pss_stop (pss_cons (ps_set (i := 6) sc__law_draw.nd rfl (Or.inl rfl) (pe_op o_mod (pe_ct c_int T.n_int (by decide +kernel) (pa_cons (pe_op o_add (pe_op o_mulA (pv 4) (pe_op o_add (pe_op o_add (pe_int) (pe_op o_mulA (pe_int) (pe_ix ix_any (pv 1) (pe_int) (fun _ _ => rfl)))) (pe_op o_mulA (pe_int) (pe_ix ix_any (pv 1) (pe_int) (fun _ _ => rfl))))) (pe_op o_mulA (pe_int) (pe_ix ix_any (pv 1) (pe_int) (fun _ _ => rfl)))) (pa_nil))) (pe_int)))
    (pss_stop (pss_cons (ps_set (i := 6) sc__law_draw.nd rfl (Or.inl rfl) (pe_op o_mod (pe_ct c_int T.n_int (by decide +kernel) (pa_cons (pe_op o_add (pe_op o_mulA (pv 6) (pv 6)) (pv 4)) (pa_nil))) (pe_int)))
    (pss_stop (pss_cons (ps_set (i := 6) sc__law_draw.nd rfl (Or.inl rfl) (pe_op o_mod (pe_ct c_int T.n_int (by decide +kernel) (pa_cons (pe_op o_mulA (pv 6) (pv 6)) (pa_nil))) (pe_int)))
    (pss_stop (pss_one (ps_ret (pe_op o_mod (pe_ct c_int T.n_int (by decide +kernel) (pa_cons (pv 6) (pa_nil))) (pv 2)))))))))))))))))
theorem ok__law_names (T : T0 P K mg) : FR P w K mg base 2 (He.fAd K ("_law_names", none)) (sp__law_names K) := by
  obtain ⟨fd, F⟩ := T.F__law_names
  have G__law_draw := ok__law_draw (P := P) (w := w) (base := base) T
  refine mk_fn F sc__law_names (fun vs H Q E h => by
    revert h; intro h; (repeat (first | (obtain ⟨rfl, _⟩ := h; exact rfl) | obtain ⟨_, h⟩ := h))) (fun _ _ _ _ _ _ us hl => match us, hl with | [_, _, _], _ => rfl) (t := t__law_names K) (fun cdv A outer s H E hr => ?_) (fun vs H Q E h => pure__law_names vs H Q E h)
  exact pss_cons (ps_set (i := 3) sc__law_names.nd rfl (Or.inl rfl) (pe_str))
    (pss_stop (pss_cons (ps_set (i := 4) sc__law_names.nd rfl (Or.inl rfl) (pe_lst (pa_nil)))
    (pss_stop (pss_cons (ps_for ownD rfl (pi_rng (by rfl) T.n_range (pa_cons (pv 2) (pa_nil))) (pg_name (i := 5) sc__law_names.nd rfl (Or.inl rfl)) (pss_cons (ps_set (i := 6) sc__law_names.nd rfl (Or.inl rfl) (pe_str))
    (pss_stop (pss_cons (ps_for ownD rfl (pi_rng (by rfl) T.n_range (pa_cons (pe_call (G__law_draw) (hr.mono (by decide)) T.g__law_draw T.k__law_draw passD (pa_cons (pv 0) (pa_cons (pv 1) (pa_cons (pe_int) (pa_nil))))) (pa_nil))) (pg_name (i := 7) sc__law_names.nd rfl (Or.inl rfl)) (pss_one (ps_set (i := 6) sc__law_names.nd rfl (Or.inl rfl) (pe_op o_add (pv 6) (pe_ix ix_any (pv 3) (pe_call (G__law_draw) (hr.mono (by decide)) T.g__law_draw T.k__law_draw passD (pa_cons (pv 0) (pa_cons (pv 1) (pa_cons (pe_int) (pa_nil))))) (fun _ _ => rfl))))))
    (pss_stop (pss_cons (ps_set (i := 8) sc__law_names.nd rfl (Or.inl rfl) (pe_call (G__law_draw) (hr.mono (by decide)) T.g__law_draw T.k__law_draw passD (pa_cons (pv 0) (pa_cons (pv 1) (pa_cons (pe_int) (pa_nil))))))
    (pss_stop (pss_cons (ps_set (i := 9) sc__law_names.nd rfl (Or.inl rfl) (pe_str))
    (pss_stop (pss_cons (ps_for ownD rfl (pi_rng (by rfl) T.n_range (pa_cons (pe_int) (pa_nil))) (pg_name (i := 7) sc__law_names.nd rfl (Or.inl rfl)) (pss_cons (ps_set (i := 10) sc__law_names.nd rfl (Or.inl rfl) (pe_op o_add (pv 6) (pe_ix ix_any (pv 3) (pe_op o_mod (pe_ct c_int T.n_int (by decide +kernel) (pa_cons (pe_op o_add (pv 8) (pv 7)) (pa_nil))) (pe_int)) (fun _ _ => rfl))))
    (pss_stop (pss_one (ps_if (PW.pt (pw_and (pt_cmp (o_eq hr.units) (pv 9) (pe_str) (nomark _)) (pw_and1 (pt_cmp o_nin (pv 10) (pv 4) (by rfl))))) (pss_one (ps_set (i := 9) sc__law_names.nd rfl (Or.inl rfl) (pv 10))) (pss_nil))))))
    (pss_stop (pss_one (ps_expr (pe_ml PySem.F.slot_list_append PySem.F.type_list_append m_app (pv 4) (pa_cons (pv 9) (pa_nil))))))))))))))))
    (pss_stop (pss_one (ps_ret (pv 4))))))))
theorem ok__law_slices (T : T0 P K mg) : FR P w K mg base 1 (He.fAd K ("_law_slices", none)) (sp__law_slices K) := by
  obtain ⟨fd, F⟩ := T.F__law_slices
  refine mk_fn F sc__law_slices (fun vs H Q E h => by
    revert h; intro h; (repeat (first | (obtain ⟨rfl, _⟩ := h; exact rfl) | obtain ⟨_, h⟩ := h))) (fun _ _ _ _ _ _ us hl => match us, hl with | [_], _ => rfl) (t := t__law_slices K) (fun cdv A outer s H E hr => ?_) (fun vs H Q E h => pure__law_slices vs H Q E h)
  exact pss_cons (ps_set (i := 1) sc__law_slices.nd rfl (Or.inl rfl) (pe_lst (pa_nil)))
    (pss_stop (pss_cons (ps_for ownD rfl (pi_seq (pv 0)) (pg_name (i := 2) sc__law_slices.nd rfl (Or.inr rfl)) (pss_one (ps_set (i := 1) sc__law_slices.nd rfl (Or.inl rfl) (pe_op o_add (pv 1) (pe_lc (own := [("_law_place", 3)]) rfl sc__law_slices.nd (pi_rngB (by rfl) T.n_range (pa_cons (pe_un u_neg (pe_int)) (pa_cons (pe_ix ix_any (pv 2) (pe_int) (fun _ _ => rfl)) (pa_nil)))) (blkOk_by (own := [("_law_place", 3)]) (N := ["_law_columns", "_law_slices_here", "_law_column", "_law_place"]) (sc := defScope s__law_slices) (by decide +kernel)) (fun _ _ _ _ _ => pg_name (i := 3) sc__law_slices.nd rfl (Or.inl rfl)) (fun _ _ _ _ _ => pts_nil) (fun _ _ _ _ _ => pe_tupK (pa_cons (pe_ix ix_any (pv 2) (pe_int) (fun _ _ => rfl)) (pa_cons (pv 3) (pa_nil)))))))))
    (pss_stop (pss_one (ps_ret (pv 1))))))
theorem okd_Bitmapdd_initdd (T : T0 P K mg) {fd : FuncData} (F : FunD K "__init__" "Bitmap.__init__" (defArgs s_Bitmapdd_initdd) (defBody s_Bitmapdd_initdd) (defScope s_Bitmapdd_initdd) [V.ref (He.dflAt ("Bitmap", some "__init__") 0 K)] [] (He.fAd K ("Bitmap", some "__init__")) fd) {ex : List V} (hb : ∃ ds, Vals ex ds ∧ Binds K fd ["self", "size", "ends"] ds) : FR P w K mg base 1 (He.fAd K ("Bitmap", some "__init__")) (spD (sp_Bitmapdd_initdd K) ex) := by
  refine mk_fnD F sc_Bitmapdd_initdd (fun vs H Q E h => by
    revert h; intro h; (repeat (first | (obtain ⟨rfl, _⟩ := h; exact rfl) | obtain ⟨_, h⟩ := h))) hb (t := t_Bitmapdd_initdd K) (fun cdv A outer s H E hr => ?_) (fun vs H Q E h => pure_Bitmapdd_initdd vs H Q E h)
  exact pss_cons (ps_set (i := 3) sc_Bitmapdd_initdd.nd rfl (Or.inl rfl) (pe_un u_neg (pe_int)))
    (pss_stop (pss_cons (ps_for ownD rfl (pi_seq (pv 2)) (pg_name (i := 4) sc_Bitmapdd_initdd.nd rfl (Or.inl rfl)) (pss_cons (ps_if (pt_not (pt_chain o_lt o_lt (pv 3) (pv 4) (pv 1))) (pss_one (ps_giv T.X_BadBitmap (ps_rs takesD T.R_BadBitmap T.g_BadBitmap))) (pss_nil))
    (pss_stop (pss_one (ps_set (i := 3) sc_Bitmapdd_initdd.nd rfl (Or.inl rfl) (pv 4))))))
    (pss_stop (pss_cons (ps_if (pt_cmp o_lt (pv 1) (pe_int) (nomark _)) (pss_one (ps_giv T.X_BadBitmap (ps_rs takesD T.R_BadBitmap T.g_BadBitmap))) (pss_nil))
    (pss_stop (pss_cons (ps_sto (pv 1) (pv 0))
    (pss_stop (pss_one (ps_sto (pe_ct c_tuple T.n_tuple (by decide +kernel) (pa_cons (pv 2) (pa_nil))) (pv 0))))))))))
theorem ok_Bitmapdd_initdd (T : T0 P K mg) : FR P w K mg base 1 (He.fAd K ("Bitmap", some "__init__")) (sp_Bitmapdd_initdd K) := by
  obtain ⟨fd, F⟩ := T.F_Bitmapdd_initdd
  have hb := FunD.binds1 (ps := ["self", "size", "ends"]) F 3 1 (List.cons_ne_nil _ _) rfl fun T kV doc pm an cdv ct us its l1 l2 => match us, its, l1, l2 with | [_, _, _], [_], _, _ => ⟨_, rfl, rfl⟩
  exact spD_nil (okd_Bitmapdd_initdd (P := P) (w := w) (base := base) T F hb)
theorem ok_Bitmapdd_initdd_2 (T : T0 P K mg) : FR P w K mg base 1 (He.fAd K ("Bitmap", some "__init__")) (spD (sp_Bitmapdd_initdd K) [V.ref (He.dflAt ("Bitmap", some "__init__") 0 K)]) := by
  obtain ⟨fd, F⟩ := T.F_Bitmapdd_initdd
  have hb := FunD.binds1 (ps := ["self", "size", "ends"]) F 2 0 (List.cons_ne_nil _ _) rfl fun T kV doc pm an cdv ct us its l1 l2 => match us, its, l1, l2 with | [_, _], [_], _, _ => ⟨_, rfl, rfl⟩
  exact  (okd_Bitmapdd_initdd (P := P) (w := w) (base := base) T F hb)
theorem ok__law_bitmap (T : T0 P K mg) : FR P w K mg base 3 (He.fAd K ("_law_bitmap", none)) (sp__law_bitmap K) := by
  obtain ⟨fd, F⟩ := T.F__law_bitmap
  have G_Bitmapdd_initdd := ok_Bitmapdd_initdd (P := P) (w := w) (base := base) T
  refine mk_fn F sc__law_bitmap (fun vs H Q E h => by
    revert h; intro h; (repeat (first | (obtain ⟨rfl, _⟩ := h; exact rfl) | obtain ⟨_, h⟩ := h))) (fun _ _ _ _ _ _ us hl => match us, hl with | [_, _], _ => rfl) (t := t__law_bitmap K) (fun cdv A outer s H E hr => ?_) (fun vs H Q E h => pure__law_bitmap vs H Q E h)
  exact pss_cons (ps_setLc (i := 2) (own := [("_law_row", 3)]) rfl sc__law_bitmap.nd rfl rfl (sw_true rfl rfl rfl (by decide +kernel)) (pi_rng (by rfl) T.n_range (pa_cons (pv 1) (pa_nil))) (blkOk_by (own := [("_law_row", 3)]) (N := ["_law_mask", "_law_size", "_law_ends", "_law_row"]) (sc := defScope s__law_bitmap) (by decide +kernel)) (fun _ _ _ _ _ => pg_name (i := 3) sc__law_bitmap.nd rfl (Or.inl rfl)) (fun _ _ _ _ _ => pts_one (pt_cmp (o_ne hr.units) (pe_op o_and (pe_op o_shr (pv 0) (pv 3)) (pe_int)) (pe_op o_and (pe_op o_shr (pe_op o_mulA (pe_int) (pv 0)) (pv 3)) (pe_int)) (nomark _))) (fun _ _ _ _ _ => pv 3))
    (pss_stop (pss_one (ps_ret (pe_giv T.C_Bitmap (pe_mk T.K_Bitmap G_Bitmapdd_initdd (hr.mono (by decide)) T.g_Bitmap passD (pa_cons (pv 1) (pa_cons (pv 2) (pa_nil))))))))
theorem ok_is_name (T : T0 P K mg) : FR P w K mg base 1 (He.fAd K ("is_name", none)) (sp_is_name K) := by
  obtain ⟨fd, F⟩ := T.F_is_name
  refine mk_fn F sc_is_name (fun vs H Q E h => by
    revert h; intro h; (repeat (first | (obtain ⟨rfl, _⟩ := h; exact rfl) | obtain ⟨_, h⟩ := h))) (fun _ _ _ _ _ _ us hl => match us, hl with | [_], _ => rfl) (t := t_is_name K) (fun cdv A outer s H E hr => ?_) (fun vs H Q E h => pure_is_name vs H Q E h)
  exact pss_cons (ps_for ownD rfl (pi_txt (pv 0)) (pg_name (i := 1) sc_is_name.nd rfl (Or.inl rfl)) (pss_one (ps_if (pt_cmp op_ninT (pv 1) (pe_gstr (by rfl) T.Z_LETTERS) (by rfl)) (pss_one (ps_ret (pe_bl))) (pss_nil))))
    (pss_stop (pss_one (ps_ret (pe_chain o_le o_le (pe_int) (pe_cb c_len T.n_len (by decide +kernel) (pa_cons (pv 0) (pa_nil))) (pe_gint (by rfl) T.Z_LONGEST)))))
theorem ok_Schemadd_initdd (T : T0 P K mg) : FR P w K mg base 2 (He.fAd K ("Schema", some "__init__")) (sp_Schemadd_initdd K) := by
  obtain ⟨fd, F⟩ := T.F_Schemadd_initdd
  have G_is_name := ok_is_name (P := P) (w := w) (base := base) T
  refine mk_fn F sc_Schemadd_initdd (fun vs H Q E h => by
    revert h; intro h; (repeat (first | (obtain ⟨rfl, _⟩ := h; exact rfl) | obtain ⟨_, h⟩ := h))) (fun _ _ _ _ _ _ us hl => match us, hl with | [_, _], _ => rfl) (t := t_Schemadd_initdd K) (fun cdv A outer s H E hr => ?_) (fun vs H Q E h => pure_Schemadd_initdd vs H Q E h)
  exact pss_cons (ps_set (i := 2) sc_Schemadd_initdd.nd rfl (Or.inl rfl) (pe_lst (pa_nil)))
    (pss_stop (pss_cons (ps_set (i := 3) sc_Schemadd_initdd.nd rfl (Or.inl rfl) (pe_lst (pa_nil)))
    (pss_stop (pss_cons (ps_for ownD rfl (pi_seq (pv 1)) (pg_tup rfl (pgs_cons (pg_name (i := 4) sc_Schemadd_initdd.nd rfl (Or.inl rfl)) (pgs_cons (pg_name (i := 5) sc_Schemadd_initdd.nd rfl (Or.inl rfl)) (pgs_nil)))) (pss_cons (ps_if (PW.pt (pw_or (pt_not (pt_of (pe_call (G_is_name) (hr.mono (by decide)) T.g_is_name T.k_is_name passD (pa_cons (pv 4) (pa_nil))))) (pw_or (pt_cmp o_in (pv 4) (pv 3) (by rfl)) (pw_or1 (pt_cmp o_lt (pv 5) (pe_int) (nomark _)))))) (pss_one (ps_giv T.X_BadSchema (ps_rs takesD T.R_BadSchema T.g_BadSchema))) (pss_nil))
    (pss_stop (pss_cons (ps_expr (pe_ml PySem.F.slot_list_append PySem.F.type_list_append m_app (pv 3) (pa_cons (pv 4) (pa_nil))))
    (pss_stop (pss_one (ps_expr (pe_ml PySem.F.slot_list_append PySem.F.type_list_append m_app (pv 2) (pa_cons (pe_tup (pa_cons (pv 4) (pa_cons (pv 5) (pa_nil)))) (pa_nil))))))))))
    (pss_stop (pss_one (ps_sto (pe_ct c_tuple T.n_tuple (by decide +kernel) (pa_cons (pv 2) (pa_nil))) (pv 0))))))))
theorem ok_Schema_all_slices (T : T0 P K mg) : FR P w K mg base 1 (He.fAd K ("Schema", some "all_slices")) (sp_Schema_all_slices K) := by
  obtain ⟨fd, F⟩ := T.F_Schema_all_slices
  refine mk_fn F sc_Schema_all_slices (fun vs H Q E h => by
    revert h; intro h; (repeat (first | (obtain ⟨rfl, _⟩ := h; exact rfl) | obtain ⟨_, h⟩ := h))) (fun _ _ _ _ _ _ us hl => match us, hl with | [_], _ => rfl) (t := t_Schema_all_slices K) (fun cdv A outer s H E hr => ?_) (fun vs H Q E h => pure_Schema_all_slices vs H Q E h)
  exact pss_one (ps_ret (pe_lc2 (own := [("name", 1), ("width", 2), ("place", 3)]) (vs1 := [3]) rfl sc_Schema_all_slices.nd (pi_seq (pe_at (pv 0))) (blkOk_by (own := [("name", 1), ("width", 2), ("place", 3)]) (N := ["self", "name", "width", "place"]) (sc := defScope s_Schema_all_slices) (by decide +kernel)) (by decide) (fun _ _ _ _ _ => pg_tup rfl (pgs_cons (pg_name (i := 1) sc_Schema_all_slices.nd rfl (Or.inl rfl)) (pgs_cons (pg_name (i := 2) sc_Schema_all_slices.nd rfl (Or.inl rfl)) (pgs_nil)))) (fun _ _ _ _ _ => pts_nil) (fun _ _ _ _ _ => pi_rngB (by rfl) T.n_range (pa_cons (pe_un u_neg (pe_int)) (pa_cons (pv 2) (pa_nil)))) (fun _ _ _ _ _ => pg_name (i := 3) sc_Schema_all_slices.nd rfl (Or.inl rfl)) (fun _ _ _ _ _ => pts_nil) (fun _ _ _ _ _ => pe_tupK (pa_cons (pv 1) (pa_cons (pv 3) (pa_nil))))))
theorem ok_Storedd_initdd (T : T0 P K mg) : FR P w K mg base 2 (He.fAd K ("Store", some "__init__")) (sp_Storedd_initdd K) := by
  obtain ⟨fd, F⟩ := T.F_Storedd_initdd
  have G_Schema_all_slices := ok_Schema_all_slices (P := P) (w := w) (base := base) T
  refine mk_fn F sc_Storedd_initdd (fun vs H Q E h => by
    revert h; intro h; (repeat (first | (obtain ⟨rfl, _⟩ := h; exact rfl) | obtain ⟨_, h⟩ := h))) (fun _ _ _ _ _ _ us hl => match us, hl with | [_, _, _, _], _ => rfl) (t := t_Storedd_initdd K) (fun cdv A outer s H E hr => ?_) (fun vs H Q E h => pure_Storedd_initdd vs H Q E h)
  exact pss_cons (ps_if (pt_cmp o_lt (pv 2) (pe_int) (nomark _)) (pss_one (ps_giv T.X_BadBitmap (ps_rs takesD T.R_BadBitmap T.g_BadBitmap))) (pss_nil))
    (pss_stop (pss_cons (ps_set (i := 4) sc_Storedd_initdd.nd rfl (Or.inl rfl) (pe_newT))
    (pss_stop (pss_cons (ps_for ownD rfl (pi_seq (pe_methD0 T.D_Schema.cl T.M_Schema_all_slices G_Schema_all_slices (hr.mono (by decide)) passD (pv 1))) (pg_name (i := 5) sc_Storedd_initdd.nd rfl (Or.inl rfl)) (pss_cons (ps_if (pt_cmp (o_ninD hr.units) (pv 5) (pv 3) (by rfl)) (pss_one (ps_giv T.X_NoSuchSlice (ps_rsI2 takesD T.Xi_NoSuchSlice T.n_super T.g_NoSuchSlice (hr.mono (by decide)) (pa_cons (pe_ix (ix_dict hr.units) (pv 5) (pe_int) (fun _ _ => rfl)) (pa_cons (pe_ix (ix_dict hr.units) (pv 5) (pe_int) (fun _ _ => rfl)) (pa_nil))) (fun _ _ _ _ _ _ _ us hl => match us, hl with | [_, _, _], _ => rfl) rfl ⟨_, rfl, rfl⟩ rfl rfl rfl (by decide +kernel) rfl rfl rfl rfl rfl (by decide) (by decide) (by decide) (by decide) (by decide) (by decide) (fun _ => rfl) (fun _ => rfl) (fun _ => rfl) (fun _ => rfl)))) (pss_nil))
    (pss_stop (pss_cons (ps_if (pt_cmp (o_ne hr.units) (pe_at (pe_ix (ix_dict hr.units) (pv 3) (pv 5) (fun _ _ => rfl))) (pv 2) (nomark _)) (pss_one (ps_giv T.X_SizesDiffer (ps_rs takesD T.R_SizesDiffer T.g_SizesDiffer))) (pss_nil))
    (pss_stop (pss_one (ps_asg (pe_ix (ix_dict hr.units) (pv 3) (pv 5) (fun _ _ => rfl)) (pg_sub (pv 4) (pv 5) (s_dict hr.units)))))))))
    (pss_stop (pss_cons (ps_sto (pv 1) (pv 0))
    (pss_stop (pss_cons (ps_sto (pv 2) (pv 0))
    (pss_stop (pss_cons (ps_sto (pv 4) (pv 0))
    (pss_stop (pss_one (ps_sto (pe_lst (pa_nil)) (pv 0))))))))))))))
theorem ok__law_mask_store (T : T0 P K mg) : FR P w K mg base 4 (He.fAd K ("_law_mask_store", none)) (sp__law_mask_store K) := by
  obtain ⟨fd, F⟩ := T.F__law_mask_store
  have G_Schemadd_initdd := ok_Schemadd_initdd (P := P) (w := w) (base := base) T
  have G_Storedd_initdd := ok_Storedd_initdd (P := P) (w := w) (base := base) T
  have G__law_bitmap := ok__law_bitmap (P := P) (w := w) (base := base) T
  refine mk_fn F sc__law_mask_store (fun vs H Q E h => by
    revert h; intro h; (repeat (first | (obtain ⟨rfl, _⟩ := h; exact rfl) | obtain ⟨_, h⟩ := h))) (fun _ _ _ _ _ _ us hl => match us, hl with | [_, _, _, _], _ => rfl) (t := t__law_mask_store K) (fun cdv A outer s H E hr => ?_) (fun vs H Q E h => pure__law_mask_store vs H Q E h)
  exact pss_cons (ps_set (i := 4) sc__law_mask_store.nd rfl (Or.inl rfl) (pe_newT))
    (pss_stop (pss_cons (ps_for ownD rfl (pi_rng (by rfl) T.n_range (pa_cons (pe_cb c_len T.n_len (by decide +kernel) (pa_cons (pv 1) (pa_nil))) (pa_nil))) (pg_name (i := 5) sc__law_mask_store.nd rfl (Or.inl rfl)) (pss_one (ps_asg (pe_call (G__law_bitmap) (hr.mono (by decide)) T.g__law_bitmap T.k__law_bitmap passD (pa_cons (pe_ix (ix_dict hr.units) (pv 3) (pv 5) (fun _ _ => rfl)) (pa_cons (pv 2) (pa_nil)))) (pg_sub (pv 4) (pe_ix (ix_dict hr.units) (pv 1) (pv 5) (fun _ _ => rfl)) (s_dict hr.units)))))
    (pss_stop (pss_one (ps_ret (pe_giv T.D_Store (pe_mk T.K_Store G_Storedd_initdd (hr.mono (by decide)) T.g_Store passD (pa_cons (pe_giv T.D_Schema (pe_mk T.K_Schema G_Schemadd_initdd (hr.mono (by decide)) T.g_Schema passD (pa_cons (pv 0) (pa_nil)))) (pa_cons (pv 2) (pa_cons (pv 4) (pa_nil)))))))))))
theorem ok_Schema_width_of (T : T0 P K mg) : FR P w K mg base 2 (He.fAd K ("Schema", some "width_of")) (sp_Schema_width_of K) := by
  obtain ⟨fd, F⟩ := T.F_Schema_width_of
  refine mk_fn F sc_Schema_width_of (fun vs H Q E h => by
    revert h; intro h; (repeat (first | (obtain ⟨rfl, _⟩ := h; exact rfl) | obtain ⟨_, h⟩ := h))) (fun _ _ _ _ _ _ us hl => match us, hl with | [_, _], _ => rfl) (t := t_Schema_width_of K) (fun cdv A outer s H E hr => ?_) (fun vs H Q E h => pure_Schema_width_of vs H Q E h)
  exact pss_cons (ps_for ownD rfl (pi_seq (pe_at (pv 0))) (pg_tup rfl (pgs_cons (pg_name (i := 2) sc_Schema_width_of.nd rfl (Or.inl rfl)) (pgs_cons (pg_name (i := 3) sc_Schema_width_of.nd rfl (Or.inl rfl)) (pgs_nil)))) (pss_one (ps_if (pt_cmp (o_eq hr.units) (pv 2) (pv 1) (nomark _)) (pss_one (ps_ret (pv 3))) (pss_nil))))
    (pss_stop (pss_one (ps_giv T.X_NoSuchColumn (ps_rsI takesD T.Xi_NoSuchColumn T.n_super T.g_NoSuchColumn (hr.mono (by decide)) (pv 1) (fun _ _ _ _ _ _ _ us hl => match us, hl with | [_, _], _ => rfl) rfl ⟨_, rfl, rfl⟩ rfl rfl rfl (by decide +kernel) rfl rfl rfl rfl (by decide) (by decide) (fun _ => rfl) (fun _ => rfl) (fun _ => rfl)))))
theorem ok_turned (T : T0 P K mg) : FR P w K mg base 1 (He.fAd K ("turned", none)) (sp_turned K) := by
  obtain ⟨fd, F⟩ := T.F_turned
  refine mk_fn F sc_turned (fun vs H Q E h => by
    revert h; intro h; (repeat (first | (obtain ⟨rfl, _⟩ := h; exact rfl) | obtain ⟨_, h⟩ := h))) (fun _ _ _ _ _ _ us hl => match us, hl with | [_, _], _ => rfl) (t := t_turned K) (fun cdv A outer s H E hr => ?_) (fun vs H Q E h => pure_turned vs H Q E h)
  exact pss_cons (ps_if (pt_cmp (o_eq hr.units) (pv 1) (pe_int) (nomark _)) (pss_one (ps_ret (pe_tup (pa_nil)))) (pss_nil))
    (pss_stop (pss_cons (ps_if (PW.pt (pw_and (pt_cmp o_gt (pe_cb c_len T.n_len (by decide +kernel) (pa_cons (pv 0) (pa_nil))) (pe_int) (nomark _)) (pw_and1 (pt_cmp (o_eq hr.units) (pe_ix ix_any (pv 0) (pe_int) (fun _ _ => rfl)) (pe_int) (nomark _))))) (pss_one (ps_ret (pe_ct c_tuple T.n_tuple (by decide +kernel) (pa_cons (pe_slice sl_any (pv 0) (po_some (pe_int)) (po_none)) (pa_nil))))) (pss_nil))
    (pss_stop (pss_one (ps_ret (pe_op o_add (pe_tup (pa_cons (pe_int) (pa_nil))) (pe_ct c_tuple T.n_tuple (by decide +kernel) (pa_cons (pv 0) (pa_nil)))))))))
theorem ok_Bitmap_full (T : T0 P K mg) : FR P w K mg base 3 (uA K "Bitmap" "full") (sp_Bitmap_full K) := by
  obtain ⟨fd, F⟩ := T.F_Bitmap_full
  have G_Bitmapdd_initdd := ok_Bitmapdd_initdd (P := P) (w := w) (base := base) T
  have G_turned := ok_turned (P := P) (w := w) (base := base) T
  refine mk_fn F sc_Bitmap_full (fun vs H Q E h => by
    revert h; intro h; (repeat (first | (obtain ⟨rfl, _⟩ := h; exact rfl) | obtain ⟨_, h⟩ := h))) (fun _ _ _ _ _ _ us hl => match us, hl with | [_], _ => rfl) (t := t_Bitmap_full K) (fun cdv A outer s H E hr => ?_) (fun vs H Q E h => pure_Bitmap_full vs H Q E h)
  exact pss_one (ps_ret (pe_giv T.C_Bitmap (pe_mk T.K_Bitmap G_Bitmapdd_initdd (hr.mono (by decide)) T.g_Bitmap passD (pa_cons (pv 0) (pa_cons (pe_call (G_turned) (hr.mono (by decide)) T.g_turned T.k_turned passD (pa_cons (pe_tup (pa_nil)) (pa_cons (pv 0) (pa_nil)))) (pa_nil))))))
theorem ok_Bitmap_empty (T : T0 P K mg) : FR P w K mg base 3 (uA K "Bitmap" "empty") (sp_Bitmap_empty K) := by
  obtain ⟨fd, F⟩ := T.F_Bitmap_empty
  have G_Bitmapdd_initdd_2 := ok_Bitmapdd_initdd_2 (P := P) (w := w) (base := base) T
  refine mk_fn F sc_Bitmap_empty (fun vs H Q E h => by
    revert h; intro h; (repeat (first | (obtain ⟨rfl, _⟩ := h; exact rfl) | obtain ⟨_, h⟩ := h))) (fun _ _ _ _ _ _ us hl => match us, hl with | [_], _ => rfl) (t := t_Bitmap_empty K) (fun cdv A outer s H E hr => ?_) (fun vs H Q E h => pure_Bitmap_empty vs H Q E h)
  exact pss_one (ps_ret (pe_giv T.C_Bitmap (pe_giv T.E_Bitmapdd_initdd_0 (pe_mk T.K_Bitmap G_Bitmapdd_initdd_2 (hr.mono (by decide)) T.g_Bitmap passD (pa_cons (pv 0) (pa_nil))))))
theorem ok_Bitmapdd_booldd (T : T0 P K mg) : FR P w K mg base 1 (He.fAd K ("Bitmap", some "__bool__")) (sp_Bitmapdd_booldd K) := by
  obtain ⟨fd, F⟩ := T.F_Bitmapdd_booldd
  refine mk_fn F sc_Bitmapdd_booldd (fun vs H Q E h => by
    revert h; intro h; (repeat (first | (obtain ⟨rfl, _⟩ := h; exact rfl) | obtain ⟨_, h⟩ := h))) (fun _ _ _ _ _ _ us hl => match us, hl with | [_], _ => rfl) (t := t_Bitmapdd_booldd K) (fun cdv A outer s H E hr => ?_) (fun vs H Q E h => pure_Bitmapdd_booldd vs H Q E h)
  exact pss_one (ps_ret (pe_ct c_bool T.n_bool (by decide +kernel) (pa_cons (pe_at (pv 0)) (pa_nil))))
theorem ok_Store_fetch (T : T0 P K mg) : FR P w K mg base 3 (He.fAd K ("Store", some "fetch")) (sp_Store_fetch K) := by
  obtain ⟨fd, F⟩ := T.F_Store_fetch
  have G_Schema_width_of := ok_Schema_width_of (P := P) (w := w) (base := base) T
  refine mk_fn F sc_Store_fetch (fun vs H Q E h => by
    revert h; intro h; (repeat (first | (obtain ⟨rfl, _⟩ := h; exact rfl) | obtain ⟨_, h⟩ := h))) (fun _ _ _ _ _ _ us hl => match us, hl with | [_, _, _], _ => rfl) (t := t_Store_fetch K) (fun cdv A outer s H E hr => ?_) (fun vs H Q E h => pure_Store_fetch vs H Q E h)
  exact pss_cons (ps_set (i := 3) sc_Store_fetch.nd rfl (Or.inl rfl) (pe_methD T.D_Schema.cl T.M_Schema_width_of G_Schema_width_of (hr.mono (by decide)) passD (pe_at (pv 0)) (pa_cons (pv 1) (pa_nil))))
    (pss_stop (pss_cons (ps_if (pt_not (pt_chain o_le o_lt (pe_un u_neg (pe_int)) (pv 2) (pv 3))) (pss_one (ps_giv T.X_NoSuchSlice (ps_rsI2 takesD T.Xi_NoSuchSlice T.n_super T.g_NoSuchSlice (hr.mono (by decide)) (pa_cons (pv 1) (pa_cons (pv 2) (pa_nil))) (fun _ _ _ _ _ _ _ us hl => match us, hl with | [_, _, _], _ => rfl) rfl ⟨_, rfl, rfl⟩ rfl rfl rfl (by decide +kernel) rfl rfl rfl rfl rfl (by decide) (by decide) (by decide) (by decide) (by decide) (by decide) (fun _ => rfl) (fun _ => rfl) (fun _ => rfl) (fun _ => rfl)))) (pss_nil))
    (pss_stop (pss_cons (ps_expr (pe_ml PySem.F.slot_list_append PySem.F.type_list_append m_app (pe_at (pv 0)) (pa_cons (pe_tupK (pa_cons (pv 1) (pa_cons (pv 2) (pa_nil)))) (pa_nil))))
    (pss_stop (pss_one (ps_ret (pe_ix (ix_dict hr.units) (pe_at (pv 0)) (pe_tupK (pa_cons (pv 1) (pa_cons (pv 2) (pa_nil)))) (fun _ _ => rfl)))))))))
theorem ok_next_end (T : T0 P K mg) : FR P w K mg base 1 (He.fAd K ("next_end", none)) (sp_next_end K) := by
  obtain ⟨fd, F⟩ := T.F_next_end
  refine mk_fn F sc_next_end (fun vs H Q E h => by
    revert h; intro h; (repeat (first | (obtain ⟨rfl, _⟩ := h; exact rfl) | obtain ⟨_, h⟩ := h))) (fun _ _ _ _ _ _ us hl => match us, hl with | [_, _, _, _], _ => rfl) (t := t_next_end K) (fun cdv A outer s H E hr => ?_) (fun vs H Q E h => pure_next_end vs H Q E h)
  exact pss_cons (ps_if (PW.pt (pw_or (pt_cmp (o_eq hr.units) (pv 3) (pe_cb c_len T.n_len (by decide +kernel) (pa_cons (pv 2) (pa_nil))) (nomark _)) (pw_or1 (PW.pt (pw_and (pt_cmp o_lt (pv 1) (pe_cb c_len T.n_len (by decide +kernel) (pa_cons (pv 0) (pa_nil))) (nomark _)) (pw_and1 (pt_cmp o_lt (pe_ix ix_any (pv 0) (pv 1) (fun _ _ => rfl)) (pe_ix ix_any (pv 2) (pv 3) (fun _ _ => rfl)) (nomark _)))))))) (pss_one (ps_ret (pe_ix ix_any (pv 0) (pv 1) (fun _ _ => rfl)))) (pss_nil))
    (pss_stop (pss_one (ps_ret (pe_ix ix_any (pv 2) (pv 3) (fun _ _ => rfl)))))
theorem ok_swept (T : T0 P K mg) : FR P w K mg base 2 (He.fAd K ("swept", none)) (sp_swept K) := by
  obtain ⟨fd, F⟩ := T.F_swept
  have G_next_end := ok_next_end (P := P) (w := w) (base := base) T
  refine mk_fn F sc_swept (fun vs H Q E h => by
    revert h; intro h; (repeat (first | (obtain ⟨rfl, _⟩ := h; exact rfl) | obtain ⟨_, h⟩ := h))) (fun _ _ _ _ _ _ us hl => match us, hl with | [_, _, _], _ => rfl) (t := t_swept K) (fun cdv A outer s H E hr => ?_) (fun vs H Q E h => pure_swept vs H Q E h)
  exact pss_cons (ps_set (i := 3) sc_swept.nd rfl (Or.inl rfl) (pe_lst (pa_nil)))
    (pss_stop (pss_cons (ps_asg2 (pe_int) (pg_name (i := 4) sc_swept.nd rfl (Or.inl rfl)) (pg_name (i := 5) sc_swept.nd rfl (Or.inl rfl)))
    (pss_stop (pss_cons (ps_asg3 (pe_int) (pg_name (i := 6) sc_swept.nd rfl (Or.inl rfl)) (pg_name (i := 7) sc_swept.nd rfl (Or.inl rfl)) (pg_name (i := 8) sc_swept.nd rfl (Or.inl rfl)))
    (pss_stop (pss_cons (ps_while ownD (PW.pt (pw_or (pt_cmp o_lt (pv 4) (pe_cb c_len T.n_len (by decide +kernel) (pa_cons (pv 0) (pa_nil))) (nomark _)) (pw_or1 (pt_cmp o_lt (pv 5) (pe_cb c_len T.n_len (by decide +kernel) (pa_cons (pv 1) (pa_nil))) (nomark _))))) (pss_cons (ps_set (i := 9) sc_swept.nd rfl (Or.inl rfl) (pe_call (G_next_end) (hr.mono (by decide)) T.g_next_end T.k_next_end passD (pa_cons (pv 0) (pa_cons (pv 4) (pa_cons (pv 1) (pa_cons (pv 5) (pa_nil)))))))
    (pss_stop (pss_cons (ps_if (PW.pt (pw_and (pt_cmp o_lt (pv 4) (pe_cb c_len T.n_len (by decide +kernel) (pa_cons (pv 0) (pa_nil))) (nomark _)) (pw_and1 (pt_cmp (o_eq hr.units) (pe_ix ix_any (pv 0) (pv 4) (fun _ _ => rfl)) (pv 9) (nomark _))))) (pss_cons (ps_set (i := 6) sc_swept.nd rfl (Or.inl rfl) (pe_op o_sub (pe_int) (pv 6)))
    (pss_one (ps_set (i := 4) sc_swept.nd rfl (Or.inl rfl) (pe_op o_add (pv 4) (pe_int))))) (pss_nil))
    (pss_stop (pss_cons (ps_if (PW.pt (pw_and (pt_cmp o_lt (pv 5) (pe_cb c_len T.n_len (by decide +kernel) (pa_cons (pv 1) (pa_nil))) (nomark _)) (pw_and1 (pt_cmp (o_eq hr.units) (pe_ix ix_any (pv 1) (pv 5) (fun _ _ => rfl)) (pv 9) (nomark _))))) (pss_cons (ps_set (i := 7) sc_swept.nd rfl (Or.inl rfl) (pe_op o_sub (pe_int) (pv 7)))
    (pss_one (ps_set (i := 5) sc_swept.nd rfl (Or.inl rfl) (pe_op o_add (pv 5) (pe_int))))) (pss_nil))
    (pss_stop (pss_one (ps_if (pt_cmp (o_ne hr.units) (pe_ix ix_any (pv 2) (pe_op o_add (pe_op o_mulA (pe_int) (pv 6)) (pv 7)) (fun _ _ => rfl)) (pv 8) (nomark _)) (pss_cons (ps_set (i := 8) sc_swept.nd rfl (Or.inl rfl) (pe_op o_sub (pe_int) (pv 8)))
    (pss_one (ps_expr (pe_ml PySem.F.slot_list_append PySem.F.type_list_append m_app (pv 3) (pa_cons (pv 9) (pa_nil)))))) (pss_nil))))))))))
    (pss_stop (pss_one (ps_ret (pe_ct c_tuple T.n_tuple (by decide +kernel) (pa_cons (pv 3) (pa_nil))))))))))))
theorem ok_Bitmap_paired (T : T0 P K mg) : FR P w K mg base 3 (He.fAd K ("Bitmap", some "paired")) (sp_Bitmap_paired K) := by
  obtain ⟨fd, F⟩ := T.F_Bitmap_paired
  have G_Bitmapdd_initdd := ok_Bitmapdd_initdd (P := P) (w := w) (base := base) T
  have G_swept := ok_swept (P := P) (w := w) (base := base) T
  refine mk_fn F sc_Bitmap_paired (fun vs H Q E h => by
    revert h; intro h; (repeat (first | (obtain ⟨rfl, _⟩ := h; exact rfl) | obtain ⟨_, h⟩ := h))) (fun _ _ _ _ _ _ us hl => match us, hl with | [_, _, _], _ => rfl) (t := t_Bitmap_paired K) (fun cdv A outer s H E hr => ?_) (fun vs H Q E h => pure_Bitmap_paired vs H Q E h)
  exact pss_cons (ps_if (pt_cmp (o_ne hr.units) (pe_at (pv 0)) (pe_at (pv 1)) (nomark _)) (pss_one (ps_giv T.X_SizesDiffer (ps_rs takesD T.R_SizesDiffer T.g_SizesDiffer))) (pss_nil))
    (pss_stop (pss_one (ps_ret (pe_giv T.C_Bitmap (pe_mk T.K_Bitmap G_Bitmapdd_initdd (hr.mono (by decide)) T.g_Bitmap passD (pa_cons (pe_at (pv 0)) (pa_cons (pe_call (G_swept) (hr.mono (by decide)) T.g_swept T.k_swept passD (pa_cons (pe_at (pv 0)) (pa_cons (pe_at (pv 1)) (pa_cons (pv 2) (pa_nil))))) (pa_nil))))))))
theorem ok_Bitmapdd_anddd (T : T0 P K mg) : FR P w K mg base 4 (He.fAd K ("Bitmap", some "__and__")) (sp_Bitmapdd_anddd K) := by
  obtain ⟨fd, F⟩ := T.F_Bitmapdd_anddd
  have G_Bitmap_paired := ok_Bitmap_paired (P := P) (w := w) (base := base) T
  refine mk_fn F sc_Bitmapdd_anddd (fun vs H Q E h => by
    revert h; intro h; (repeat (first | (obtain ⟨rfl, _⟩ := h; exact rfl) | obtain ⟨_, h⟩ := h))) (fun _ _ _ _ _ _ us hl => match us, hl with | [_, _], _ => rfl) (t := t_Bitmapdd_anddd K) (fun cdv A outer s H E hr => ?_) (fun vs H Q E h => pure_Bitmapdd_anddd vs H Q E h)
  exact pss_one (ps_ret (pe_meth T.C_Bitmap.sc T.M_Bitmap_paired G_Bitmap_paired (hr.mono (by decide)) passD (pv 0) (pa_cons (pv 1) (pa_cons (pe_giv T.U_AND (pe_glob (by rfl) T.g_AND rfl)) (pa_nil)))))
theorem ok_Bitmap_rank (T : T0 P K mg) : FR P w K mg base 2 (He.fAd K ("Bitmap", some "rank")) (sp_Bitmap_rank K) := by
  obtain ⟨fd, F⟩ := T.F_Bitmap_rank
  refine mk_fn F sc_Bitmap_rank (fun vs H Q E h => by
    revert h; intro h; (repeat (first | (obtain ⟨rfl, _⟩ := h; exact rfl) | obtain ⟨_, h⟩ := h))) (fun _ _ _ _ _ _ us hl => match us, hl with | [_, _], _ => rfl) (t := t_Bitmap_rank K) (fun cdv A outer s H E hr => ?_) (fun vs H Q E h => pure_Bitmap_rank vs H Q E h)
  exact pss_cons (ps_if (pt_not (pt_chain o_le o_le (pe_int) (pv 1) (pe_at (pv 0)))) (pss_one (ps_giv T.X_NoSuchRow (ps_rsI takesD T.Xi_NoSuchRow T.n_super T.g_NoSuchRow (hr.mono (by decide)) (pv 1) (fun _ _ _ _ _ _ _ us hl => match us, hl with | [_, _], _ => rfl) rfl ⟨_, rfl, rfl⟩ rfl rfl rfl (by decide +kernel) rfl rfl rfl rfl (by decide) (by decide) (fun _ => rfl) (fun _ => rfl) (fun _ => rfl)))) (pss_nil))
    (pss_stop (pss_cons (ps_set (i := 2) sc_Bitmap_rank.nd rfl (Or.inl rfl) (pe_int))
    (pss_stop (pss_cons (ps_for ownD rfl (pi_en T.n_enumerate (pe_at (pv 0))) (pg_tup rfl (pgs_cons (pg_name (i := 3) sc_Bitmap_rank.nd rfl (Or.inl rfl)) (pgs_cons (pg_name (i := 4) sc_Bitmap_rank.nd rfl (Or.inl rfl)) (pgs_nil)))) (pss_one (ps_if (pt_cmp o_lt (pv 4) (pv 1) (nomark _)) (pss_one (ps_set (i := 2) sc_Bitmap_rank.nd rfl (Or.inl rfl) (pe_op o_add (pv 2) (pe_op o_mulA (pe_op o_sub (pv 1) (pv 4)) (pe_op o_sub (pe_int) (pe_op o_mulA (pe_int) (pe_op o_and (pv 3) (pe_int)))))))) (pss_nil))))
    (pss_stop (pss_one (ps_ret (pv 2))))))))
theorem ok_Bitmap_ones (T : T0 P K mg) : FR P w K mg base 3 (uA K "Bitmap" "ones") (sp_Bitmap_ones K) := by
  obtain ⟨fd, F⟩ := T.F_Bitmap_ones
  have G_Bitmap_rank := ok_Bitmap_rank (P := P) (w := w) (base := base) T
  refine mk_fn F sc_Bitmap_ones (fun vs H Q E h => by
    revert h; intro h; (repeat (first | (obtain ⟨rfl, _⟩ := h; exact rfl) | obtain ⟨_, h⟩ := h))) (fun _ _ _ _ _ _ us hl => match us, hl with | [_], _ => rfl) (t := t_Bitmap_ones K) (fun cdv A outer s H E hr => ?_) (fun vs H Q E h => pure_Bitmap_ones vs H Q E h)
  exact pss_one (ps_ret (pe_meth T.C_Bitmap.sc T.M_Bitmap_rank G_Bitmap_rank (hr.mono (by decide)) passD (pv 0) (pa_cons (pe_at (pv 0)) (pa_nil))))
theorem ok_Bitmapdd_subdd (T : T0 P K mg) : FR P w K mg base 4 (He.fAd K ("Bitmap", some "__sub__")) (sp_Bitmapdd_subdd K) := by
  obtain ⟨fd, F⟩ := T.F_Bitmapdd_subdd
  have G_Bitmap_paired := ok_Bitmap_paired (P := P) (w := w) (base := base) T
  refine mk_fn F sc_Bitmapdd_subdd (fun vs H Q E h => by
    revert h; intro h; (repeat (first | (obtain ⟨rfl, _⟩ := h; exact rfl) | obtain ⟨_, h⟩ := h))) (fun _ _ _ _ _ _ us hl => match us, hl with | [_, _], _ => rfl) (t := t_Bitmapdd_subdd K) (fun cdv A outer s H E hr => ?_) (fun vs H Q E h => pure_Bitmapdd_subdd vs H Q E h)
  exact pss_one (ps_ret (pe_meth T.C_Bitmap.sc T.M_Bitmap_paired G_Bitmap_paired (hr.mono (by decide)) passD (pv 0) (pa_cons (pv 1) (pa_cons (pe_giv T.U_LESS (pe_glob (by rfl) T.g_LESS rfl)) (pa_nil)))))
theorem ok_Bitmapdd_invertdd (T : T0 P K mg) : FR P w K mg base 3 (He.fAd K ("Bitmap", some "__invert__")) (sp_Bitmapdd_invertdd K) := by
  obtain ⟨fd, F⟩ := T.F_Bitmapdd_invertdd
  have G_Bitmapdd_initdd := ok_Bitmapdd_initdd (P := P) (w := w) (base := base) T
  have G_turned := ok_turned (P := P) (w := w) (base := base) T
  refine mk_fn F sc_Bitmapdd_invertdd (fun vs H Q E h => by
    revert h; intro h; (repeat (first | (obtain ⟨rfl, _⟩ := h; exact rfl) | obtain ⟨_, h⟩ := h))) (fun _ _ _ _ _ _ us hl => match us, hl with | [_], _ => rfl) (t := t_Bitmapdd_invertdd K) (fun cdv A outer s H E hr => ?_) (fun vs H Q E h => pure_Bitmapdd_invertdd vs H Q E h)
  exact pss_one (ps_ret (pe_giv T.C_Bitmap (pe_mk T.K_Bitmap G_Bitmapdd_initdd (hr.mono (by decide)) T.g_Bitmap passD (pa_cons (pe_at (pv 0)) (pa_cons (pe_call (G_turned) (hr.mono (by decide)) T.g_turned T.k_turned passD (pa_cons (pe_at (pv 0)) (pa_cons (pe_at (pv 0)) (pa_nil)))) (pa_nil))))))
theorem ok_Bitmapdd_ordd (T : T0 P K mg) : FR P w K mg base 4 (He.fAd K ("Bitmap", some "__or__")) (sp_Bitmapdd_ordd K) := by
  obtain ⟨fd, F⟩ := T.F_Bitmapdd_ordd
  have G_Bitmap_paired := ok_Bitmap_paired (P := P) (w := w) (base := base) T
  refine mk_fn F sc_Bitmapdd_ordd (fun vs H Q E h => by
    revert h; intro h; (repeat (first | (obtain ⟨rfl, _⟩ := h; exact rfl) | obtain ⟨_, h⟩ := h))) (fun _ _ _ _ _ _ us hl => match us, hl with | [_, _], _ => rfl) (t := t_Bitmapdd_ordd K) (fun cdv A outer s H E hr => ?_) (fun vs H Q E h => pure_Bitmapdd_ordd vs H Q E h)
  exact pss_one (ps_ret (pe_meth T.C_Bitmap.sc T.M_Bitmap_paired G_Bitmap_paired (hr.mono (by decide)) passD (pv 0) (pa_cons (pv 1) (pa_cons (pe_giv T.U_OR (pe_glob (by rfl) T.g_OR rfl)) (pa_nil)))))
theorem okF_Bitmap_runs (T : T0 P K mg) : GFF P w K mg base 1 (He.fAd K ("Bitmap", some "runs")) (spF_Bitmap_runs K) := by
  obtain ⟨fd, F⟩ := T.F_Bitmap_runs
  refine gff_of F sc_Bitmap_runs (by decide +kernel) (fun vs H Q E h => by
    revert h; intro h; (repeat (first | (obtain ⟨rfl, _⟩ := h; exact rfl) | obtain ⟨_, h⟩ := h))) (fun _ _ _ _ _ _ us hl => match us, hl with | [_], _ => rfl) (t := tF_Bitmap_runs K E0) (fun cdv A outer s H pn Z Kc hr al => ?_) (fun vs H Kc Q h => pureF_Bitmap_runs vs H Kc Q h)
  exact gssf_cons (gsf_ps al (fun b => ps_set (i := 1) sc_Bitmap_runs.nd rfl (Or.inl rfl) (pe_non)))
    (gssf_stop (gssf_cons (gsf_for al rfl (fun b => pi_seq (pe_at (pv 0))) (fun b => pg_name (i := 2) sc_Bitmap_runs.nd rfl (Or.inl rfl)) (gssf_one (gsf_if al (fun b => pt_cmp o_isN (pv 1) (pe_non) (nomark _)) (gssf_one (gsf_ps al (fun b => ps_set (i := 1) sc_Bitmap_runs.nd rfl (Or.inl rfl) (pv 2)))) (gssf_cons (gsf_yield al (fun b => pe_tup (pa_cons (pv 1) (pa_cons (pv 2) (pa_nil)))))
    (gssf_one (gsf_ps al (fun b => ps_set (i := 1) sc_Bitmap_runs.nd rfl (Or.inl rfl) (pe_non))))))))
    (gssf_stop (gssf_one (gsf_if al (fun b => pt_cmp o_notN (pv 1) (pe_non) (nomark _)) (gssf_one (gsf_yield al (fun b => pe_tup (pa_cons (pv 1) (pa_cons (pe_at (pv 0)) (pa_nil)))))) (gssf_nil))))))
theorem ok_Bitmap_nth (T : T0 P K mg) : FR P w K mg base 5 (He.fAd K ("Bitmap", some "nth")) (sp_Bitmap_nth K) := by
  obtain ⟨fd, F⟩ := T.F_Bitmap_nth
  have GF_Bitmap_runs := okF_Bitmap_runs (P := P) (w := w) (base := base) T
  have G_Bitmap_ones := ok_Bitmap_ones (P := P) (w := w) (base := base) T
  refine mk_fn F sc_Bitmap_nth (fun vs H Q E h => by
    revert h; intro h; (repeat (first | (obtain ⟨rfl, _⟩ := h; exact rfl) | obtain ⟨_, h⟩ := h))) (fun _ _ _ _ _ _ us hl => match us, hl with | [_, _], _ => rfl) (t := t_Bitmap_nth K) (fun cdv A outer s H E hr => ?_) (fun vs H Q E h => pure_Bitmap_nth vs H Q E h)
  exact pss_cons (ps_if (pt_not (pt_chain o_le o_lt (pe_int) (pv 1) (pe_prop T.C_Bitmap.sc T.P_Bitmap_ones G_Bitmap_ones (hr.mono (by decide)) (pv 0)))) (pss_one (ps_giv T.X_NoSuchRank (ps_rsI takesD T.Xi_NoSuchRank T.n_super T.g_NoSuchRank (hr.mono (by decide)) (pv 1) (fun _ _ _ _ _ _ _ us hl => match us, hl with | [_, _], _ => rfl) rfl ⟨_, rfl, rfl⟩ rfl rfl rfl (by decide +kernel) rfl rfl rfl rfl (by decide) (by decide) (fun _ => rfl) (fun _ => rfl) (fun _ => rfl)))) (pss_nil))
    (pss_stop (pss_cons (ps_set (i := 2) sc_Bitmap_nth.nd rfl (Or.inl rfl) (pv 1))
    (pss_stop (pss_cons (ps_set (i := 3) sc_Bitmap_nth.nd rfl (Or.inl rfl) (pe_int))
    (pss_stop (pss_cons (ps_forF ownD rfl (pgenF_meth0 T.C_Bitmap.sc T.M_Bitmap_runs GF_Bitmap_runs (hr.mono (by decide)) (pv 0)) (hr.mono (by decide)) (pgg_tup rfl (pgsg_cons (pgg_name (i := 4) sc_Bitmap_nth.nd rfl (Or.inl rfl)) (pgsg_cons (pgg_name (i := 5) sc_Bitmap_nth.nd rfl (Or.inl rfl)) (pgsg_nil)))) (pssg_cons (psg_if (ptg_chain og_le og_lt (peg_int) (pvg 2) (peg_op og_sub (pvg 5) (pvg 4))) (pssg_one (psg_set (i := 3) sc_Bitmap_nth.nd rfl (Or.inl rfl) (peg_op (og_add rfl) (pvg 4) (pvg 2)))) (pssg_nil))
    (pssg_stop (pssg_one (psg_set (i := 2) sc_Bitmap_nth.nd rfl (Or.inl rfl) (peg_op og_sub (pvg 2) (peg_op og_sub (pvg 5) (pvg 4))))))) (fun x => cells_no (by decide +kernel)))
    (pss_stop (pss_one (ps_ret (pv 3))))))))))
theorem ok_Bitmap_span (T : T0 P K mg) : FR P w K mg base 3 (uA K "Bitmap" "span") (sp_Bitmap_span K) := by
  obtain ⟨fd, F⟩ := T.F_Bitmap_span
  have G_Bitmapdd_initdd := ok_Bitmapdd_initdd (P := P) (w := w) (base := base) T
  have G_Bitmapdd_initdd_2 := ok_Bitmapdd_initdd_2 (P := P) (w := w) (base := base) T
  refine mk_fn F sc_Bitmap_span (fun vs H Q E h => by
    revert h; intro h; (repeat (first | (obtain ⟨rfl, _⟩ := h; exact rfl) | obtain ⟨_, h⟩ := h))) (fun _ _ _ _ _ _ us hl => match us, hl with | [_, _, _], _ => rfl) (t := t_Bitmap_span K) (fun cdv A outer s H E hr => ?_) (fun vs H Q E h => pure_Bitmap_span vs H Q E h)
  exact pss_cons (ps_if (pt_not (pt_chain3 o_le o_le o_le (pe_int) (pv 1) (pv 2) (pv 0))) (pss_one (ps_giv T.X_BadBitmap (ps_rs takesD T.R_BadBitmap T.g_BadBitmap))) (pss_nil))
    (pss_stop (pss_cons (ps_if (pt_cmp (o_eq hr.units) (pv 1) (pv 2) (nomark _)) (pss_one (ps_ret (pe_giv T.C_Bitmap (pe_giv T.E_Bitmapdd_initdd_0 (pe_mk T.K_Bitmap G_Bitmapdd_initdd_2 (hr.mono (by decide)) T.g_Bitmap passD (pa_cons (pv 0) (pa_nil))))))) (pss_nil))
    (pss_stop (pss_cons (ps_if (pt_cmp (o_eq hr.units) (pv 2) (pv 0) (nomark _)) (pss_one (ps_ret (pe_giv T.C_Bitmap (pe_mk T.K_Bitmap G_Bitmapdd_initdd (hr.mono (by decide)) T.g_Bitmap passD (pa_cons (pv 0) (pa_cons (pe_tup (pa_cons (pv 1) (pa_nil))) (pa_nil))))))) (pss_nil))
    (pss_stop (pss_one (ps_ret (pe_giv T.C_Bitmap (pe_mk T.K_Bitmap G_Bitmapdd_initdd (hr.mono (by decide)) T.g_Bitmap passD (pa_cons (pv 0) (pa_cons (pe_tup (pa_cons (pv 1) (pa_cons (pv 2) (pa_nil)))) (pa_nil))))))))))))
theorem ok_Bitmap_first (T : T0 P K mg) : FR P w K mg base 6 (He.fAd K ("Bitmap", some "first")) (sp_Bitmap_first K) := by
  obtain ⟨fd, F⟩ := T.F_Bitmap_first
  have G_Bitmap_nth := ok_Bitmap_nth (P := P) (w := w) (base := base) T
  have G_Bitmap_ones := ok_Bitmap_ones (P := P) (w := w) (base := base) T
  have G_Bitmap_span := ok_Bitmap_span (P := P) (w := w) (base := base) T
  have G_Bitmapdd_anddd := ok_Bitmapdd_anddd (P := P) (w := w) (base := base) T
  refine mk_fn F sc_Bitmap_first (fun vs H Q E h => by
    revert h; intro h; (repeat (first | (obtain ⟨rfl, _⟩ := h; exact rfl) | obtain ⟨_, h⟩ := h))) (fun _ _ _ _ _ _ us hl => match us, hl with | [_, _], _ => rfl) (t := t_Bitmap_first K) (fun cdv A outer s H E hr => ?_) (fun vs H Q E h => pure_Bitmap_first vs H Q E h)
  exact pss_cons (ps_if (pt_cmp o_lt (pv 1) (pe_int) (nomark _)) (pss_one (ps_giv T.X_NoSuchRank (ps_rsI takesD T.Xi_NoSuchRank T.n_super T.g_NoSuchRank (hr.mono (by decide)) (pv 1) (fun _ _ _ _ _ _ _ us hl => match us, hl with | [_, _], _ => rfl) rfl ⟨_, rfl, rfl⟩ rfl rfl rfl (by decide +kernel) rfl rfl rfl rfl (by decide) (by decide) (fun _ => rfl) (fun _ => rfl) (fun _ => rfl)))) (pss_nil))
    (pss_stop (pss_cons (ps_if (pt_cmp o_ge (pv 1) (pe_prop T.C_Bitmap.sc T.P_Bitmap_ones G_Bitmap_ones (hr.mono (by decide)) (pv 0)) (nomark _)) (pss_one (ps_ret (pv 0))) (pss_nil))
    (pss_stop (pss_one (ps_ret (pe_op (op_ownB T.C_Bitmap.mf T.M_Bitmapdd_anddd G_Bitmapdd_anddd (hr.mono (by decide)) passD o_and) (pv 0) (pe_stat T.St_Bitmap_span (G_Bitmap_span) (hr.mono (by decide)) passD (pe_glob (by rfl) T.g_Bitmap rfl) (pa_cons (pe_at (pv 0)) (pa_cons (pe_int) (pa_cons (pe_meth T.C_Bitmap.sc T.M_Bitmap_nth G_Bitmap_nth (hr.mono (by decide)) passD (pv 0) (pa_cons (pv 1) (pa_nil))) (pa_nil)))))))))))
theorem okd_first_rows (T : T0 P K mg) {fd : FuncData} (F : FunD K "first_rows" "first_rows" (defArgs s_first_rows) (defBody s_first_rows) (defScope s_first_rows) [] [("rows", V.non), ("largest", V.bl false)] (He.fAd K ("first_rows", none)) fd) {ex : List V} (hb : ∃ ds, Vals ex ds ∧ Binds K fd ["store", "name", "k", "rows", "largest"] ds) : FR P w K mg base 7 (He.fAd K ("first_rows", none)) (spD (sp_first_rows K) ex) := by
  have G_Bitmap_empty := ok_Bitmap_empty (P := P) (w := w) (base := base) T
  have G_Bitmap_first := ok_Bitmap_first (P := P) (w := w) (base := base) T
  have G_Bitmap_full := ok_Bitmap_full (P := P) (w := w) (base := base) T
  have G_Bitmap_ones := ok_Bitmap_ones (P := P) (w := w) (base := base) T
  have G_Bitmapdd_anddd := ok_Bitmapdd_anddd (P := P) (w := w) (base := base) T
  have G_Bitmapdd_booldd := ok_Bitmapdd_booldd (P := P) (w := w) (base := base) T
  have G_Bitmapdd_invertdd := ok_Bitmapdd_invertdd (P := P) (w := w) (base := base) T
  have G_Bitmapdd_ordd := ok_Bitmapdd_ordd (P := P) (w := w) (base := base) T
  have G_Bitmapdd_subdd := ok_Bitmapdd_subdd (P := P) (w := w) (base := base) T
  have G_Schema_width_of := ok_Schema_width_of (P := P) (w := w) (base := base) T
  have G_Store_fetch := ok_Store_fetch (P := P) (w := w) (base := base) T
  refine mk_fnD F sc_first_rows (fun vs H Q E h => by
    revert h; intro h; (repeat (first | (obtain ⟨rfl, _⟩ := h; exact rfl) | obtain ⟨_, h⟩ := h))) hb (t := t_first_rows K) (fun cdv A outer s H E hr => ?_) (fun vs H Q E h => pure_first_rows vs H Q E h)
  exact pss_cons (ps_set (i := 5) sc_first_rows.nd rfl (Or.inl rfl) (pe_methD T.D_Schema.cl T.M_Schema_width_of G_Schema_width_of (hr.mono (by decide)) passD (pe_at (pv 0)) (pa_cons (pv 1) (pa_nil))))
    (pss_stop (pss_cons (ps_if (pt_cmp o_isN (pv 3) (pe_non) (nomark _)) (pss_one (ps_set (i := 3) sc_first_rows.nd rfl (Or.inl rfl) (pe_stat T.St_Bitmap_full (G_Bitmap_full) (hr.mono (by decide)) passD (pe_glob (by rfl) T.g_Bitmap rfl) (pa_cons (pe_at (pv 0)) (pa_nil))))) (pss_nil))
    (pss_stop (pss_cons (ps_if (pt_cmp (o_ne hr.units) (pe_at (pv 3)) (pe_at (pv 0)) (nomark _)) (pss_one (ps_giv T.X_SizesDiffer (ps_rs takesD T.R_SizesDiffer T.g_SizesDiffer))) (pss_nil))
    (pss_stop (pss_cons (ps_if (pt_cmp o_lt (pv 2) (pe_int) (nomark _)) (pss_one (ps_giv T.X_NoSuchRank (ps_rsI takesD T.Xi_NoSuchRank T.n_super T.g_NoSuchRank (hr.mono (by decide)) (pv 2) (fun _ _ _ _ _ _ _ us hl => match us, hl with | [_, _], _ => rfl) rfl ⟨_, rfl, rfl⟩ rfl rfl rfl (by decide +kernel) rfl rfl rfl rfl (by decide) (by decide) (fun _ => rfl) (fun _ => rfl) (fun _ => rfl)))) (pss_nil))
    (pss_stop (pss_cons (ps_set (i := 6) sc_first_rows.nd rfl (Or.inl rfl) (pe_stat T.St_Bitmap_empty (G_Bitmap_empty) (hr.mono (by decide)) passD (pe_glob (by rfl) T.g_Bitmap rfl) (pa_cons (pe_at (pv 0)) (pa_nil))))
    (pss_stop (pss_cons (ps_if (PW.pt (pw_or (pt_cmp (o_eq hr.units) (pv 2) (pe_int) (nomark _)) (pw_or1 (pt_not (pt_ofO T.M_Bitmapdd_booldd G_Bitmapdd_booldd (hr.mono (by decide)) passD (pv 3)))))) (pss_one (ps_ret (pe_tup (pa_cons (pv 6) (pa_cons (pe_tup (pa_nil)) (pa_nil)))))) (pss_nil))
    (pss_stop (pss_cons (ps_set (i := 7) sc_first_rows.nd rfl (Or.inl rfl) (pe_lst (pa_cons (pe_tup (pa_cons (pv 1) (pa_cons (pe_un u_neg (pe_int)) (pa_nil)))) (pa_nil))))
    (pss_stop (pss_cons (ps_set (i := 8) sc_first_rows.nd rfl (Or.inl rfl) (pe_op (op_ownB T.C_Bitmap.mf T.M_Bitmapdd_anddd G_Bitmapdd_anddd (hr.mono (by decide)) passD o_and) (pv 3) (pe_methD T.D_Store.cl T.M_Store_fetch G_Store_fetch (hr.mono (by decide)) passD (pv 0) (pa_cons (pv 1) (pa_cons (pe_un u_neg (pe_int)) (pa_nil))))))
    (pss_stop (pss_cons (ps_if (pt_cmp o_le (pe_prop T.C_Bitmap.sc T.P_Bitmap_ones G_Bitmap_ones (hr.mono (by decide)) (pv 8)) (pv 2) (nomark _)) (pss_one (ps_ret (pe_tup (pa_cons (pv 8) (pa_cons (pe_ct c_tuple T.n_tuple (by decide +kernel) (pa_cons (pv 7) (pa_nil))) (pa_nil)))))) (pss_nil))
    (pss_stop (pss_cons (ps_set (i := 9) sc_first_rows.nd rfl (Or.inl rfl) (pv 2))
    (pss_stop (pss_cons (ps_for ownD rfl (pi_rngD (by rfl) T.n_range (pa_cons (pe_op (op_ownB T.C_Bitmap.mf T.M_Bitmapdd_subdd G_Bitmapdd_subdd (hr.mono (by decide)) passD o_sub) (pv 5) (pe_int)) (pa_cons (pe_un u_neg (pe_int)) (pa_cons (pe_un u_neg (pe_int)) (pa_nil))))) (pg_name (i := 10) sc_first_rows.nd rfl (Or.inl rfl)) (pss_cons (ps_expr (pe_ml PySem.F.slot_list_append PySem.F.type_list_append m_app (pv 7) (pa_cons (pe_tup (pa_cons (pv 1) (pa_cons (pv 10) (pa_nil)))) (pa_nil))))
    (pss_stop (pss_cons (ps_set (i := 11) sc_first_rows.nd rfl (Or.inl rfl) (pe_methD T.D_Store.cl T.M_Store_fetch G_Store_fetch (hr.mono (by decide)) passD (pv 0) (pa_cons (pv 1) (pa_cons (pv 10) (pa_nil)))))
    (pss_stop (pss_cons (ps_if (pt_cmp (o_eq hr.units) (pe_cmp (o_eq hr.units) (pv 10) (pe_op (op_ownB T.C_Bitmap.mf T.M_Bitmapdd_subdd G_Bitmapdd_subdd (hr.mono (by decide)) passD o_sub) (pv 5) (pe_int)) (nomark _)) (pv 4) (nomark _)) (pss_one (ps_set (i := 11) sc_first_rows.nd rfl (Or.inl rfl) (pe_un (u_inv T.M_Bitmapdd_invertdd G_Bitmapdd_invertdd (hr.mono (by decide)) passD) (pv 11)))) (pss_nil))
    (pss_stop (pss_cons (ps_set (i := 12) sc_first_rows.nd rfl (Or.inl rfl) (pe_op (op_ownB T.C_Bitmap.mf T.M_Bitmapdd_anddd G_Bitmapdd_anddd (hr.mono (by decide)) passD o_and) (pv 8) (pv 11)))
    (pss_stop (pss_cons (ps_if (pt_cmp o_gt (pe_prop T.C_Bitmap.sc T.P_Bitmap_ones G_Bitmap_ones (hr.mono (by decide)) (pv 12)) (pv 9) (nomark _)) (pss_one (ps_set (i := 8) sc_first_rows.nd rfl (Or.inl rfl) (pv 12))) (pss_cons (ps_set (i := 6) sc_first_rows.nd rfl (Or.inl rfl) (pe_op (op_ownB T.C_Bitmap.mf T.M_Bitmapdd_ordd G_Bitmapdd_ordd (hr.mono (by decide)) passD o_or) (pv 6) (pv 12)))
    (pss_cons (ps_set (i := 8) sc_first_rows.nd rfl (Or.inl rfl) (pe_op (op_ownB T.C_Bitmap.mf T.M_Bitmapdd_subdd G_Bitmapdd_subdd (hr.mono (by decide)) passD o_sub) (pv 8) (pv 12)))
    (pss_one (ps_set (i := 9) sc_first_rows.nd rfl (Or.inl rfl) (pe_op (op_ownB T.C_Bitmap.mf T.M_Bitmapdd_subdd G_Bitmapdd_subdd (hr.mono (by decide)) passD o_sub) (pv 9) (pe_prop T.C_Bitmap.sc T.P_Bitmap_ones G_Bitmap_ones (hr.mono (by decide)) (pv 12))))))))
    (pss_stop (pss_one (ps_if (pt_cmp (o_eq hr.units) (pv 9) (pe_int) (nomark _)) (pss_one (ps_break)) (pss_nil))))))))))))))
    (pss_stop (pss_one (ps_ret (pe_tup (pa_cons (pe_op (op_ownB T.C_Bitmap.mf T.M_Bitmapdd_ordd G_Bitmapdd_ordd (hr.mono (by decide)) passD o_or) (pv 6) (pe_meth T.C_Bitmap.sc T.M_Bitmap_first G_Bitmap_first (hr.mono (by decide)) passD (pv 8) (pa_cons (pv 9) (pa_nil)))) (pa_cons (pe_ct c_tuple T.n_tuple (by decide +kernel) (pa_cons (pv 7) (pa_nil))) (pa_nil)))))))))))))))))))))))))))
theorem ok_K_first_rows_3_rows_largest (T : T0 P K mg) : FK P w K mg base 7 (He.fAd K ("first_rows", none)) 3 ["rows", "largest"] (sp_first_rows K) (fun vs zs => vs ++ (zs)) := by
  obtain ⟨fd, F⟩ := T.F_first_rows
  have G_Bitmap_empty := ok_Bitmap_empty (P := P) (w := w) (base := base) T
  have G_Bitmap_first := ok_Bitmap_first (P := P) (w := w) (base := base) T
  have G_Bitmap_full := ok_Bitmap_full (P := P) (w := w) (base := base) T
  have G_Bitmap_ones := ok_Bitmap_ones (P := P) (w := w) (base := base) T
  have G_Bitmapdd_anddd := ok_Bitmapdd_anddd (P := P) (w := w) (base := base) T
  have G_Bitmapdd_booldd := ok_Bitmapdd_booldd (P := P) (w := w) (base := base) T
  have G_Bitmapdd_invertdd := ok_Bitmapdd_invertdd (P := P) (w := w) (base := base) T
  have G_Bitmapdd_ordd := ok_Bitmapdd_ordd (P := P) (w := w) (base := base) T
  have G_Bitmapdd_subdd := ok_Bitmapdd_subdd (P := P) (w := w) (base := base) T
  have G_Schema_width_of := ok_Schema_width_of (P := P) (w := w) (base := base) T
  have G_Store_fetch := ok_Store_fetch (P := P) (w := w) (base := base) T
  obtain ⟨mv, hb⟩ := FunD.kbinds0 (ps := ["store", "name", "k", "rows", "largest"]) F 3 ["rows", "largest"] [] (fun us mv ws => us ++ (ws)) (List.cons_ne_nil _ _) (by decide) (fun r1 r2 r3 => r1.append (r3)) (fun D doc pm an cdv ct us mv ws l1 l2 l3 => match us, mv, ws, l1, l2, l3 with | [_, _, _], [], [_, _], _, _, _ => rfl)
  refine mk_fnK F sc_first_rows (fun vs H Q E h => by
    revert h; intro h; (repeat (first | (obtain ⟨rfl, _⟩ := h; exact rfl) | obtain ⟨_, h⟩ := h))) ⟨_, hb⟩ (t := t_first_rows K) (fun cdv A outer s H E hr => ?_) (fun vs H Q E h => pure_first_rows vs H Q E h)
  exact pss_cons (ps_set (i := 5) sc_first_rows.nd rfl (Or.inl rfl) (pe_methD T.D_Schema.cl T.M_Schema_width_of G_Schema_width_of (hr.mono (by decide)) passD (pe_at (pv 0)) (pa_cons (pv 1) (pa_nil))))
    (pss_stop (pss_cons (ps_if (pt_cmp o_isN (pv 3) (pe_non) (nomark _)) (pss_one (ps_set (i := 3) sc_first_rows.nd rfl (Or.inl rfl) (pe_stat T.St_Bitmap_full (G_Bitmap_full) (hr.mono (by decide)) passD (pe_glob (by rfl) T.g_Bitmap rfl) (pa_cons (pe_at (pv 0)) (pa_nil))))) (pss_nil))
    (pss_stop (pss_cons (ps_if (pt_cmp (o_ne hr.units) (pe_at (pv 3)) (pe_at (pv 0)) (nomark _)) (pss_one (ps_giv T.X_SizesDiffer (ps_rs takesD T.R_SizesDiffer T.g_SizesDiffer))) (pss_nil))
    (pss_stop (pss_cons (ps_if (pt_cmp o_lt (pv 2) (pe_int) (nomark _)) (pss_one (ps_giv T.X_NoSuchRank (ps_rsI takesD T.Xi_NoSuchRank T.n_super T.g_NoSuchRank (hr.mono (by decide)) (pv 2) (fun _ _ _ _ _ _ _ us hl => match us, hl with | [_, _], _ => rfl) rfl ⟨_, rfl, rfl⟩ rfl rfl rfl (by decide +kernel) rfl rfl rfl rfl (by decide) (by decide) (fun _ => rfl) (fun _ => rfl) (fun _ => rfl)))) (pss_nil))
    (pss_stop (pss_cons (ps_set (i := 6) sc_first_rows.nd rfl (Or.inl rfl) (pe_stat T.St_Bitmap_empty (G_Bitmap_empty) (hr.mono (by decide)) passD (pe_glob (by rfl) T.g_Bitmap rfl) (pa_cons (pe_at (pv 0)) (pa_nil))))
    (pss_stop (pss_cons (ps_if (PW.pt (pw_or (pt_cmp (o_eq hr.units) (pv 2) (pe_int) (nomark _)) (pw_or1 (pt_not (pt_ofO T.M_Bitmapdd_booldd G_Bitmapdd_booldd (hr.mono (by decide)) passD (pv 3)))))) (pss_one (ps_ret (pe_tup (pa_cons (pv 6) (pa_cons (pe_tup (pa_nil)) (pa_nil)))))) (pss_nil))
    (pss_stop (pss_cons (ps_set (i := 7) sc_first_rows.nd rfl (Or.inl rfl) (pe_lst (pa_cons (pe_tup (pa_cons (pv 1) (pa_cons (pe_un u_neg (pe_int)) (pa_nil)))) (pa_nil))))
    (pss_stop (pss_cons (ps_set (i := 8) sc_first_rows.nd rfl (Or.inl rfl) (pe_op (op_ownB T.C_Bitmap.mf T.M_Bitmapdd_anddd G_Bitmapdd_anddd (hr.mono (by decide)) passD o_and) (pv 3) (pe_methD T.D_Store.cl T.M_Store_fetch G_Store_fetch (hr.mono (by decide)) passD (pv 0) (pa_cons (pv 1) (pa_cons (pe_un u_neg (pe_int)) (pa_nil))))))
    (pss_stop (pss_cons (ps_if (pt_cmp o_le (pe_prop T.C_Bitmap.sc T.P_Bitmap_ones G_Bitmap_ones (hr.mono (by decide)) (pv 8)) (pv 2) (nomark _)) (pss_one (ps_ret (pe_tup (pa_cons (pv 8) (pa_cons (pe_ct c_tuple T.n_tuple (by decide +kernel) (pa_cons (pv 7) (pa_nil))) (pa_nil)))))) (pss_nil))
    (pss_stop (pss_cons (ps_set (i := 9) sc_first_rows.nd rfl (Or.inl rfl) (pv 2))
    (pss_stop (pss_cons (ps_for ownD rfl (pi_rngD (by rfl) T.n_range (pa_cons (pe_op (op_ownB T.C_Bitmap.mf T.M_Bitmapdd_subdd G_Bitmapdd_subdd (hr.mono (by decide)) passD o_sub) (pv 5) (pe_int)) (pa_cons (pe_un u_neg (pe_int)) (pa_cons (pe_un u_neg (pe_int)) (pa_nil))))) (pg_name (i := 10) sc_first_rows.nd rfl (Or.inl rfl)) (pss_cons (ps_expr (pe_ml PySem.F.slot_list_append PySem.F.type_list_append m_app (pv 7) (pa_cons (pe_tup (pa_cons (pv 1) (pa_cons (pv 10) (pa_nil)))) (pa_nil))))
    (pss_stop (pss_cons (ps_set (i := 11) sc_first_rows.nd rfl (Or.inl rfl) (pe_methD T.D_Store.cl T.M_Store_fetch G_Store_fetch (hr.mono (by decide)) passD (pv 0) (pa_cons (pv 1) (pa_cons (pv 10) (pa_nil)))))
    (pss_stop (pss_cons (ps_if (pt_cmp (o_eq hr.units) (pe_cmp (o_eq hr.units) (pv 10) (pe_op (op_ownB T.C_Bitmap.mf T.M_Bitmapdd_subdd G_Bitmapdd_subdd (hr.mono (by decide)) passD o_sub) (pv 5) (pe_int)) (nomark _)) (pv 4) (nomark _)) (pss_one (ps_set (i := 11) sc_first_rows.nd rfl (Or.inl rfl) (pe_un (u_inv T.M_Bitmapdd_invertdd G_Bitmapdd_invertdd (hr.mono (by decide)) passD) (pv 11)))) (pss_nil))
    (pss_stop (pss_cons (ps_set (i := 12) sc_first_rows.nd rfl (Or.inl rfl) (pe_op (op_ownB T.C_Bitmap.mf T.M_Bitmapdd_anddd G_Bitmapdd_anddd (hr.mono (by decide)) passD o_and) (pv 8) (pv 11)))
    (pss_stop (pss_cons (ps_if (pt_cmp o_gt (pe_prop T.C_Bitmap.sc T.P_Bitmap_ones G_Bitmap_ones (hr.mono (by decide)) (pv 12)) (pv 9) (nomark _)) (pss_one (ps_set (i := 8) sc_first_rows.nd rfl (Or.inl rfl) (pv 12))) (pss_cons (ps_set (i := 6) sc_first_rows.nd rfl (Or.inl rfl) (pe_op (op_ownB T.C_Bitmap.mf T.M_Bitmapdd_ordd G_Bitmapdd_ordd (hr.mono (by decide)) passD o_or) (pv 6) (pv 12)))
    (pss_cons (ps_set (i := 8) sc_first_rows.nd rfl (Or.inl rfl) (pe_op (op_ownB T.C_Bitmap.mf T.M_Bitmapdd_subdd G_Bitmapdd_subdd (hr.mono (by decide)) passD o_sub) (pv 8) (pv 12)))
    (pss_one (ps_set (i := 9) sc_first_rows.nd rfl (Or.inl rfl) (pe_op (op_ownB T.C_Bitmap.mf T.M_Bitmapdd_subdd G_Bitmapdd_subdd (hr.mono (by decide)) passD o_sub) (pv 9) (pe_prop T.C_Bitmap.sc T.P_Bitmap_ones G_Bitmap_ones (hr.mono (by decide)) (pv 12))))))))
    (pss_stop (pss_one (ps_if (pt_cmp (o_eq hr.units) (pv 9) (pe_int) (nomark _)) (pss_one (ps_break)) (pss_nil))))))))))))))
    (pss_stop (pss_one (ps_ret (pe_tup (pa_cons (pe_op (op_ownB T.C_Bitmap.mf T.M_Bitmapdd_ordd G_Bitmapdd_ordd (hr.mono (by decide)) passD o_or) (pv 6) (pe_meth T.C_Bitmap.sc T.M_Bitmap_first G_Bitmap_first (hr.mono (by decide)) passD (pv 8) (pa_cons (pv 9) (pa_nil)))) (pa_cons (pe_ct c_tuple T.n_tuple (by decide +kernel) (pa_cons (pv 7) (pa_nil))) (pa_nil)))))))))))))))))))))))))))
theorem ok__law_choice (T : T0 P K mg) : FR P w K mg base 1 (He.fAd K ("_law_choice", none)) (sp__law_choice K) := by
  obtain ⟨fd, F⟩ := T.F__law_choice
  refine mk_fn F sc__law_choice (fun vs H Q E h => by
    revert h; intro h; (repeat (first | (obtain ⟨rfl, _⟩ := h; exact rfl) | obtain ⟨_, h⟩ := h))) (fun _ _ _ _ _ _ us hl => match us, hl with | [_, _, _, _], _ => rfl) (t := t__law_choice K) (fun cdv A outer s H E hr => ?_) (fun vs H Q E h => pure__law_choice vs H Q E h)
  exact pss_cons (ps_set (i := 4) sc__law_choice.nd rfl (Or.inl rfl) (pe_lst (pa_nil)))
    (pss_stop (pss_cons (ps_for ownD rfl (pi_rng (by rfl) T.n_range (pa_cons (pe_cb c_len T.n_len (by decide +kernel) (pa_cons (pv 1) (pa_nil))) (pa_nil))) (pg_name (i := 5) sc__law_choice.nd rfl (Or.inl rfl)) (pss_one (ps_if (pt_cmp (o_eq hr.units) (pe_ix ix_any (pe_ix ix_any (pv 0) (pe_int) (fun _ _ => rfl)) (pv 5) (fun _ _ => rfl)) (pe_int) (nomark _)) (pss_cons (ps_set (i := 6) sc__law_choice.nd rfl (Or.inl rfl) (pe_op o_sub (pe_int) (pe_ix ix_any (pe_ix ix_any (pv 0) (pe_int) (fun _ _ => rfl)) (pv 5) (fun _ _ => rfl))))
    (pss_cons (ps_for ownD rfl (pi_seq (pe_slice sl_any (pv 0) (po_some (pe_int)) (po_none))) (pg_name (i := 7) sc__law_choice.nd rfl (Or.inl rfl)) (pss_one (ps_set (i := 6) sc__law_choice.nd rfl (Or.inl rfl) (pe_op o_add (pe_op o_mulA (pe_int) (pv 6)) (pe_ix ix_any (pv 7) (pv 5) (fun _ _ => rfl))))))
    (pss_cons (ps_if (pt_of (pv 3)) (pss_one (ps_set (i := 6) sc__law_choice.nd rfl (Or.inl rfl) (pe_op o_sub (pe_int) (pv 6)))) (pss_nil))
    (pss_one (ps_expr (pe_ml PySem.F.slot_list_append PySem.F.type_list_append m_app (pv 4) (pa_cons (pe_tupK (pa_cons (pv 6) (pa_cons (pe_ix ix_any (pv 1) (pv 5) (fun _ _ => rfl)) (pa_nil)))) (pa_nil)))))))) (pss_nil))))
    (pss_stop (pss_one (ps_ret (pe_cb (c_sortedT hr.units) T.n_sorted (by decide +kernel) (pa_cons (pe_lc (own := [("_law_key", 8)]) rfl sc__law_choice.nd (pi_seq (pe_slice sl_any (pe_cb (c_sortedT hr.units) T.n_sorted (by decide +kernel) (pa_cons (pv 4) (pa_nil))) (po_none) (po_some (pv 2)))) (blkOk_by (own := [("_law_key", 8)]) (N := ["_law_grid", "_law_chosen", "_law_k", "_law_top", "_law_keys", "_law_j", "_law_value", "_law_bits", "_law_key"]) (sc := defScope s__law_choice) (by decide +kernel)) (fun _ _ _ _ _ => pg_name (i := 8) sc__law_choice.nd rfl (Or.inl rfl)) (fun _ _ _ _ _ => pts_nil) (fun _ _ _ _ _ => pe_ix ix_any (pv 8) (pe_int) (fun _ _ => rfl))) (pa_nil))))))))
theorem ok__law_settled (T : T0 P K mg) : FR P w K mg base 2 (He.fAd K ("_law_settled", none)) (sp__law_settled K) := by
  obtain ⟨fd, F⟩ := T.F__law_settled
  have G__law_choice := ok__law_choice (P := P) (w := w) (base := base) T
  refine mk_fn F sc__law_settled (fun vs H Q E h => by
    revert h; intro h; (repeat (first | (obtain ⟨rfl, _⟩ := h; exact rfl) | obtain ⟨_, h⟩ := h))) (fun _ _ _ _ _ _ us hl => match us, hl with | [_, _, _, _, _], _ => rfl) (t := t__law_settled K) (fun cdv A outer s H E hr => ?_) (fun vs H Q E h => pure__law_settled vs H Q E h)
  exact pss_cons (ps_set (i := 5) sc__law_settled.nd rfl (Or.inr rfl) (pe_cb c_len T.n_len (by decide +kernel) (pa_cons (pv 2) (pa_nil))))
    (pss_stop (pss_cons (ps_set (i := 6) sc__law_settled.nd rfl (Or.inl rfl) (pe_non))
    (pss_stop (pss_cons (ps_for ownD rfl (pi_rng (by rfl) T.n_range (pa_cons (pe_op o_shl (pe_int) (pe_op o_mulA (pv 5) (pe_op o_sub (pe_cb c_len T.n_len (by decide +kernel) (pa_cons (pv 0) (pa_nil))) (pv 1)))) (pa_nil))) (pg_name (i := 7) sc__law_settled.nd rfl (Or.inr rfl)) (pss_cons (ps_set (i := 8) sc__law_settled.nd rfl (Or.inl rfl) (pe_ct c_list T.n_list (by decide +kernel) (pa_cons (pe_slice sl_any (pv 0) (po_none) (po_some (pv 1))) (pa_nil))))
    (pss_stop (pss_cons (ps_for ownD rfl (pi_rng (by rfl) T.n_range (pa_cons (pe_op o_sub (pe_cb c_len T.n_len (by decide +kernel) (pa_cons (pv 0) (pa_nil))) (pv 1)) (pa_nil))) (pg_name (i := 9) sc__law_settled.nd rfl (Or.inr rfl)) (pss_one (ps_expr (pe_ml PySem.F.slot_list_append PySem.F.type_list_append m_app (pv 8) (pa_cons (pe_lc (own := [("_law_j", 11)]) rfl sc__law_settled.nd (pi_rng (by rfl) T.n_range (pa_cons (pv 5) (pa_nil))) (blkOk_by (own := [("_law_j", 11)]) (N := ["_law_grid", "_law_fixed", "_law_chosen", "_law_k", "_law_top", "_law_many", "_law_first", "_law_number", "_law_tried", "_law_s", "_law_picked", "_law_j"]) (sc := defScope s__law_settled) (by decide +kernel)) (fun _ _ _ _ _ => pg_name (i := 11) sc__law_settled.nd rfl (Or.inl rfl)) (fun _ _ _ _ _ => pts_nil) (fun _ _ _ _ _ => pe_op o_and (pe_op o_shr (pv 7) (pe_op o_add (pe_op o_mulA (pv 9) (pv 5)) (pv 11))) (pe_int))) (pa_nil))))))
    (pss_stop (pss_cons (ps_set (i := 10) sc__law_settled.nd rfl (Or.inl rfl) (pe_call (G__law_choice) (hr.mono (by decide)) T.g__law_choice T.k__law_choice passD (pa_cons (pv 8) (pa_cons (pv 2) (pa_cons (pv 3) (pa_cons (pv 4) (pa_nil)))))))
    (pss_stop (pss_cons (ps_if (pt_cmp o_isN (pv 6) (pe_non) (nomark _)) (pss_one (ps_set (i := 6) sc__law_settled.nd rfl (Or.inl rfl) (pv 10))) (pss_nil))
    (pss_stop (pss_one (ps_if (pt_cmp (o_ne hr.units) (pv 10) (pv 6) (nomark _)) (pss_one (ps_ret (pe_bl))) (pss_nil))))))))))))
    (pss_stop (pss_one (ps_ret (pe_bl))))))))
theorem ok__law_least (T : T0 P K mg) : FR P w K mg base 3 (He.fAd K ("_law_least", none)) (sp__law_least K) := by
  obtain ⟨fd, F⟩ := T.F__law_least
  have G__law_settled := ok__law_settled (P := P) (w := w) (base := base) T
  refine mk_fn F sc__law_least (fun vs H Q E h => by
    revert h; intro h; (repeat (first | (obtain ⟨rfl, _⟩ := h; exact rfl) | obtain ⟨_, h⟩ := h))) (fun _ _ _ _ _ _ us hl => match us, hl with | [_, _, _, _], _ => rfl) (t := t__law_least K) (fun cdv A outer s H E hr => ?_) (fun vs H Q E h => pure__law_least vs H Q E h)
  exact pss_cons (ps_set (i := 4) sc__law_least.nd rfl (Or.inl rfl) (pe_cb c_len T.n_len (by decide +kernel) (pa_cons (pv 0) (pa_nil))))
    (pss_stop (pss_cons (ps_for ownD rfl (pi_rng (by rfl) T.n_range (pa_cons (pe_op o_add (pe_cb c_len T.n_len (by decide +kernel) (pa_cons (pv 0) (pa_nil))) (pe_int)) (pa_nil))) (pg_name (i := 5) sc__law_least.nd rfl (Or.inl rfl)) (pss_cons (ps_set (i := 6) sc__law_least.nd rfl (Or.inl rfl) (pe_op o_sub (pe_cb c_len T.n_len (by decide +kernel) (pa_cons (pv 0) (pa_nil))) (pv 5)))
    (pss_stop (pss_one (ps_if (PW.pt (pw_or (pt_cmp (o_eq hr.units) (pv 4) (pe_op o_add (pv 6) (pe_int)) (nomark _)) (pw_or1 (pt_cmp (o_eq hr.units) (pv 5) (pe_int) (nomark _))))) (pss_one (ps_if (pt_of (pe_call (G__law_settled) (hr.mono (by decide)) T.g__law_settled T.k__law_settled passD (pa_cons (pv 0) (pa_cons (pv 6) (pa_cons (pv 1) (pa_cons (pv 2) (pa_cons (pv 3) (pa_nil)))))))) (pss_one (ps_set (i := 4) sc__law_least.nd rfl (Or.inl rfl) (pv 6))) (pss_nil))) (pss_nil))))))
    (pss_stop (pss_one (ps_ret (pv 4))))))
theorem ok__law_is_number (T : T0 P K mg) : FR P w K mg base 1 (He.fAd K ("_law_is_number", none)) (sp__law_is_number K) := by
  obtain ⟨fd, F⟩ := T.F__law_is_number
  refine mk_fn F sc__law_is_number (fun vs H Q E h => by
    revert h; intro h; (repeat (first | (obtain ⟨rfl, _⟩ := h; exact rfl) | obtain ⟨_, h⟩ := h))) (fun _ _ _ _ _ _ us hl => match us, hl with | [_], _ => rfl) (t := t__law_is_number K) (fun cdv A outer s H E hr => ?_) (fun vs H Q E h => pure__law_is_number vs H Q E h)
  exact pss_one (ps_ret (pe_and (pe_cb c_isi T.n_isinstance (by decide +kernel) (pa_cons (pv 0) (pa_cons (pe_bt T.n_int (by decide +kernel)) (pa_nil)))) (pe_one (pe_not (pe_cb c_isi T.n_isinstance (by decide +kernel) (pa_cons (pv 0) (pa_cons (pe_bt T.n_bool (by decide +kernel)) (pa_nil))))))))
theorem ok_Bitmapdd_containsdd (T : T0 P K mg) : FR P w K mg base 1 (He.fAd K ("Bitmap", some "__contains__")) (sp_Bitmapdd_containsdd K) := by
  obtain ⟨fd, F⟩ := T.F_Bitmapdd_containsdd
  refine mk_fn F sc_Bitmapdd_containsdd (fun vs H Q E h => by
    revert h; intro h; (repeat (first | (obtain ⟨rfl, _⟩ := h; exact rfl) | obtain ⟨_, h⟩ := h))) (fun _ _ _ _ _ _ us hl => match us, hl with | [_, _], _ => rfl) (t := t_Bitmapdd_containsdd K) (fun cdv A outer s H E hr => ?_) (fun vs H Q E h => pure_Bitmapdd_containsdd vs H Q E h)
  exact pss_one (ps_ret (pe_and (pe_chain o_le o_lt (pe_int) (pv 1) (pe_at (pv 0))) (pe_one (pe_cmp (o_eq hr.units) (pe_op o_and (pe_cb c_len T.n_len (by decide +kernel) (pa_cons (pe_lc (own := [("end", 2)]) rfl sc_Bitmapdd_containsdd.nd (pi_seq (pe_at (pv 0))) (blkOk_by (own := [("end", 2)]) (N := ["self", "row", "end"]) (sc := defScope s_Bitmapdd_containsdd) (by decide +kernel)) (fun _ _ _ _ _ => pg_name (i := 2) sc_Bitmapdd_containsdd.nd rfl (Or.inl rfl)) (fun _ _ _ _ _ => pts_one (pt_cmp o_le (pv 2) (pv 1) (nomark _))) (fun _ _ _ _ _ => pv 2)) (pa_nil))) (pe_int)) (pe_int) (nomark _)))))
theorem ok__law_is_set (T : T0 P K mg) : FR P w K mg base 2 (He.fAd K ("_law_is_set", none)) (sp__law_is_set K) := by
  obtain ⟨fd, F⟩ := T.F__law_is_set
  have G_Bitmapdd_containsdd := ok_Bitmapdd_containsdd (P := P) (w := w) (base := base) T
  have G__law_is_number := ok__law_is_number (P := P) (w := w) (base := base) T
  refine mk_fn F sc__law_is_set (fun vs H Q E h => by
    revert h; intro h; (repeat (first | (obtain ⟨rfl, _⟩ := h; exact rfl) | obtain ⟨_, h⟩ := h))) (fun _ _ _ _ _ _ us hl => match us, hl with | [_, _, _], _ => rfl) (t := t__law_is_set K) (fun cdv A outer s H E hr => ?_) (fun vs H Q E h => pure__law_is_set vs H Q E h)
  exact pss_cons (ps_if (PW.pt (pw_or (pt_not (pt_of (pe_giv T.C_Bitmap.mf (pe_cb c_isi T.n_isinstance (by decide +kernel) (pa_cons (pv 0) (pa_cons (pe_glob (by rfl) T.g_Bitmap rfl) (pa_nil))))))) (pw_or (pt_not (pt_of (pe_call (G__law_is_number) (hr.mono (by decide)) T.g__law_is_number T.k__law_is_number passD (pa_cons (pe_at (pv 0)) (pa_nil))))) (pw_or1 (pt_cmp (o_ne hr.units) (pe_at (pv 0)) (pv 1) (nomark _)))))) (pss_one (ps_ret (pe_bl))) (pss_nil))
    (pss_stop (pss_one (ps_ret (pe_cmp (o_eq hr.units) (pe_lc (own := [("_law_row", 3)]) rfl sc__law_is_set.nd (pi_rng (by rfl) T.n_range (pa_cons (pv 1) (pa_nil))) (blkOk_by (own := [("_law_row", 3)]) (N := ["_law_bitmap_here", "_law_size", "_law_due", "_law_row"]) (sc := defScope s__law_is_set) (by decide +kernel)) (fun _ _ _ _ _ => pg_name (i := 3) sc__law_is_set.nd rfl (Or.inl rfl)) (fun _ _ _ _ _ => pts_one (pt_cmp (op_inO T.M_Bitmapdd_containsdd G_Bitmapdd_containsdd (hr.mono (by decide)) passL0) (pv 3) (pv 0) (by rfl))) (fun _ _ _ _ _ => pv 3)) (pv 2) (nomark _)))))
theorem ok_law (T : T0 P K mg) {fd : FuncData} (F : FunD K "law" "law" (defArgs s_law) (defBody s_law) (defScope s_law) [] [] (He.fAd K ("law", none)) fd) : FnOk P w K mg base CX0 8 (He.fAd K ("law", none)) fd ["_law_script"] (sp_law K) := by
  have GK_first_rows_3_rows_largest := ok_K_first_rows_3_rows_largest (P := P) (w := w) (base := base) T
  have G__law_bitmap := ok__law_bitmap (P := P) (w := w) (base := base) T
  have G__law_choice := ok__law_choice (P := P) (w := w) (base := base) T
  have G__law_draw := ok__law_draw (P := P) (w := w) (base := base) T
  have G__law_is_set := ok__law_is_set (P := P) (w := w) (base := base) T
  have G__law_least := ok__law_least (P := P) (w := w) (base := base) T
  have G__law_mask_store := ok__law_mask_store (P := P) (w := w) (base := base) T
  have G__law_names := ok__law_names (P := P) (w := w) (base := base) T
  have G__law_slices := ok__law_slices (P := P) (w := w) (base := base) T
  refine mk_law F sc_law (fun vs H Q E h => by
    revert h; intro h; (repeat (first | (obtain ⟨rfl, _⟩ := h; exact rfl) | obtain ⟨_, h⟩ := h))) (t := t_law K) (fun cdv A outer s H E hr => ?_) (fun vs H Q E h => pure_law vs H Q E0 h)
  exact pss_cons (ps_set (i := 1) sc_law.nd rfl (Or.inr rfl) (pe_lst (pa_cons (pe_int) (pa_cons (pe_int) (pa_cons (pe_int) (pa_cons (pe_int) (pa_nil)))))))
    (pss_stop (pss_cons (ps_set (i := 2) sc_law.nd rfl (Or.inr rfl) (pe_call (G__law_names) (hr.mono (by decide)) T.g__law_names T.k__law_names passL0 (pa_cons (pv 0) (pa_cons (pv 1) (pa_cons (pe_op o_add (pe_int) (pe_call (G__law_draw) (hr.mono (by decide)) T.g__law_draw T.k__law_draw passL0 (pa_cons (pv 0) (pa_cons (pv 1) (pa_cons (pe_int) (pa_nil)))))) (pa_nil))))))
    (pss_stop (pss_cons (ps_set (i := 3) sc_law.nd rfl (Or.inr rfl) (pe_call (G__law_draw) (hr.mono (by decide)) T.g__law_draw T.k__law_draw passL0 (pa_cons (pv 0) (pa_cons (pv 1) (pa_cons (pe_int) (pa_nil))))))
    (pss_stop (pss_cons (ps_set (i := 4) sc_law.nd rfl (Or.inr rfl) (pe_op o_add (pe_int) (pe_call (G__law_draw) (hr.mono (by decide)) T.g__law_draw T.k__law_draw passL0 (pa_cons (pv 0) (pa_cons (pv 1) (pa_cons (pe_ix ix_any (pe_lst (pa_cons (pe_int) (pa_cons (pe_int) (pa_cons (pe_int) (pa_cons (pe_int) (pa_nil)))))) (pv 3) (fun _ _ => rfl)) (pa_nil)))))))
    (pss_stop (pss_cons (ps_set (i := 5) sc_law.nd rfl (Or.inr rfl) (pe_call (G__law_draw) (hr.mono (by decide)) T.g__law_draw T.k__law_draw passL0 (pa_cons (pv 0) (pa_cons (pv 1) (pa_cons (pe_cb c_len T.n_len (by decide +kernel) (pa_cons (pv 2) (pa_nil))) (pa_nil))))))
    (pss_stop (pss_cons (ps_set (i := 6) sc_law.nd rfl (Or.inl rfl) (pe_lst (pa_nil)))
    (pss_stop (pss_cons (ps_for PassesOwn.never rfl (pi_rng (by rfl) T.n_range (pa_cons (pe_cb c_len T.n_len (by decide +kernel) (pa_cons (pv 2) (pa_nil))) (pa_nil))) (pg_name (i := 7) sc_law.nd rfl (Or.inl rfl)) (pss_one (ps_expr (pe_ml PySem.F.slot_list_append PySem.F.type_list_append m_app (pv 6) (pa_cons (pe_tupK (pa_cons (pe_ix ix_any (pv 2) (pv 7) (fun _ _ => rfl)) (pa_cons (pe_ix ix_any (pe_lst (pa_cons (pe_int) (pa_cons (pv 4) (pa_nil)))) (pe_ct c_int T.n_int (by decide +kernel) (pa_cons (pe_cmp (o_eq hr.units) (pv 7) (pv 5) (nomark _)) (pa_nil))) (fun _ _ => rfl)) (pa_nil)))) (pa_nil))))))
    (pss_stop (pss_cons (ps_set (i := 8) sc_law.nd rfl (Or.inl rfl) (pe_call (G__law_slices) (hr.mono (by decide)) T.g__law_slices T.k__law_slices passL0 (pa_cons (pv 6) (pa_nil))))
    (pss_stop (pss_cons (ps_setLc (i := 9) (own := [("_law_piece", 18)]) rfl sc_law.nd rfl rfl (sw_true rfl rfl rfl (by decide +kernel)) (pi_seq (pv 8)) (blkOk_by (own := [("_law_piece", 18)]) (N := ["_law_script", "_law_state", "_law_names_here", "_law_size", "_law_width", "_law_at", "_law_columns", "_law_k", "_law_slices_here", "_law_masks", "_law_asked", "_law_many", "_law_top", "_law_path", "_law_store", "_law_told", "_law_chosen", "_law_grid", "_law_piece", "_law_mask", "_law_due", "_law_other", "_law_again", "_law_j", "_law_row"]) (sc := defScope s_law) (by decide +kernel)) (fun _ _ _ _ _ => pg_name (i := 18) sc_law.nd rfl (Or.inl rfl)) (fun _ _ _ _ _ => pts_nil) (fun _ _ _ _ _ => pe_call (G__law_draw) (hr.mono (by decide)) T.g__law_draw T.k__law_draw passL0 (pa_cons (pv 0) (pa_cons (pv 1) (pa_cons (pe_op o_shl (pe_int) (pv 3)) (pa_nil))))))
    (pss_stop (pss_cons (ps_set (i := 10) sc_law.nd rfl (Or.inr rfl) (pe_op o_sub (pe_op o_shl (pe_int) (pv 3)) (pe_int)))
    (pss_stop (pss_cons (ps_if (pt_cmp (o_eq hr.units) (pe_call (G__law_draw) (hr.mono (by decide)) T.g__law_draw T.k__law_draw passL0 (pa_cons (pv 0) (pa_cons (pv 1) (pa_cons (pe_int) (pa_nil))))) (pe_int) (nomark _)) (pss_one (ps_set (i := 10) sc_law.nd rfl (Or.inr rfl) (pe_call (G__law_draw) (hr.mono (by decide)) T.g__law_draw T.k__law_draw passL0 (pa_cons (pv 0) (pa_cons (pv 1) (pa_cons (pe_op o_shl (pe_int) (pv 3)) (pa_nil))))))) (pss_nil))
    (pss_stop (pss_cons (ps_set (i := 11) sc_law.nd rfl (Or.inl rfl) (pe_call (G__law_draw) (hr.mono (by decide)) T.g__law_draw T.k__law_draw passL0 (pa_cons (pv 0) (pa_cons (pv 1) (pa_cons (pe_int) (pa_nil))))))
    (pss_stop (pss_cons (ps_set (i := 12) sc_law.nd rfl (Or.inl rfl) (pe_cmp (o_eq hr.units) (pe_call (G__law_draw) (hr.mono (by decide)) T.g__law_draw T.k__law_draw passL0 (pa_cons (pv 0) (pa_cons (pv 1) (pa_cons (pe_int) (pa_nil))))) (pe_int) (nomark _)))
    (pss_stop (pss_cons (ps_set (i := 13) sc_law.nd rfl (Or.inl rfl) (pe_op o_add (pe_lst (pa_cons (pe_tupK (pa_cons (pe_ix ix_any (pv 2) (pv 5) (fun _ _ => rfl)) (pa_cons (pe_un u_neg (pe_int)) (pa_nil)))) (pa_nil))) (pe_lc (own := [("_law_j", 23)]) rfl sc_law.nd (pi_rng (by rfl) T.n_range (pa_cons (pv 4) (pa_nil))) (blkOk_by (own := [("_law_j", 23)]) (N := ["_law_script", "_law_state", "_law_names_here", "_law_size", "_law_width", "_law_at", "_law_columns", "_law_k", "_law_slices_here", "_law_masks", "_law_asked", "_law_many", "_law_top", "_law_path", "_law_store", "_law_told", "_law_chosen", "_law_grid", "_law_piece", "_law_mask", "_law_due", "_law_other", "_law_again", "_law_j", "_law_row"]) (sc := defScope s_law) (by decide +kernel)) (fun _ _ _ _ _ => pg_name (i := 23) sc_law.nd rfl (Or.inl rfl)) (fun _ _ _ _ _ => pts_nil) (fun _ _ _ _ _ => pe_tupK (pa_cons (pe_ix ix_any (pv 2) (pv 5) (fun _ _ => rfl)) (pa_cons (pe_op o_sub (pe_op o_sub (pv 4) (pe_int)) (pv 23)) (pa_nil)))))))
    (pss_stop (pss_cons (ps_set (i := 14) sc_law.nd rfl (Or.inl rfl) (pe_call (G__law_mask_store) (hr.mono (by decide)) T.g__law_mask_store T.k__law_mask_store passL0 (pa_cons (pv 6) (pa_cons (pv 8) (pa_cons (pv 3) (pa_cons (pv 9) (pa_nil)))))))
    (pss_stop (pss_cons (ps_set (i := 15) sc_law.nd rfl (Or.inl rfl) (pe_callK (ks := ["rows", "largest"]) (GK_first_rows_3_rows_largest) (hr.mono (by decide)) T.g_first_rows T.k_first_rows passL0 (pa_cons (pv 14) (pa_cons (pe_ix ix_any (pv 2) (pv 5) (fun _ _ => rfl)) (pa_cons (pv 11) (pa_nil)))) (pk_cons (pe_call (G__law_bitmap) (hr.mono (by decide)) T.g__law_bitmap T.k__law_bitmap passL0 (pa_cons (pv 10) (pa_cons (pv 3) (pa_nil)))) (pk_cons (pv 12) (pk_nil)))))
    (pss_stop (pss_cons (ps_if (PW.pt (pw_or (pt_not (pt_of (pe_cb c_isi T.n_isinstance (by decide +kernel) (pa_cons (pv 15) (pa_cons (pe_bt T.n_tuple (by decide +kernel)) (pa_nil)))))) (pw_or (pt_cmp (o_ne hr.units) (pe_cb c_len T.n_len (by decide +kernel) (pa_cons (pv 15) (pa_nil))) (pe_int) (nomark _)) (pw_or1 (pt_not (pt_of (pe_cb c_isi T.n_isinstance (by decide +kernel) (pa_cons (pe_ix ix_any (pv 15) (pe_int) (fun _ _ => rfl)) (pa_cons (pe_bt T.n_tuple (by decide +kernel)) (pa_nil)))))))))) (pss_one (ps_ret (pe_bl))) (pss_nil))
    (pss_stop (pss_cons (ps_setLc (i := 16) (own := [("_law_row", 24)]) rfl sc_law.nd rfl rfl (sw_true rfl rfl rfl (by decide +kernel)) (pi_rng (by rfl) T.n_range (pa_cons (pv 3) (pa_nil))) (blkOk_by (own := [("_law_row", 24)]) (N := ["_law_script", "_law_state", "_law_names_here", "_law_size", "_law_width", "_law_at", "_law_columns", "_law_k", "_law_slices_here", "_law_masks", "_law_asked", "_law_many", "_law_top", "_law_path", "_law_store", "_law_told", "_law_chosen", "_law_grid", "_law_piece", "_law_mask", "_law_due", "_law_other", "_law_again", "_law_j", "_law_row"]) (sc := defScope s_law) (by decide +kernel)) (fun _ _ _ _ _ => pg_name (i := 24) sc_law.nd rfl (Or.inl rfl)) (fun _ _ _ _ _ => pts_one (pt_cmp (o_eq hr.units) (pe_op o_and (pe_op o_shr (pv 10) (pv 24)) (pe_int)) (pe_int) (nomark _))) (fun _ _ _ _ _ => pv 24))
    (pss_stop (pss_cons (ps_set (i := 17) sc_law.nd rfl (Or.inl rfl) (pe_lst (pa_nil)))
    (pss_stop (pss_cons (ps_for PassesOwn.never rfl (pi_seq (pv 13)) (pg_name (i := 18) sc_law.nd rfl (Or.inl rfl)) (pss_cons (ps_set (i := 19) sc_law.nd rfl (Or.inr rfl) (pe_ix ix_any (pv 9) (pe_ml PySem.F.slot_list_index PySem.F.type_list_index (m_idx (u80 hr)) (pv 8) (pa_cons (pv 18) (pa_nil))) (fun _ _ => rfl)))
    (pss_stop (pss_one (ps_expr (pe_ml PySem.F.slot_list_append PySem.F.type_list_append m_app (pv 17) (pa_cons (pe_lc (own := [("_law_row", 24)]) rfl sc_law.nd (pi_seq (pv 16)) (blkOk_by (own := [("_law_row", 24)]) (N := ["_law_script", "_law_state", "_law_names_here", "_law_size", "_law_width", "_law_at", "_law_columns", "_law_k", "_law_slices_here", "_law_masks", "_law_asked", "_law_many", "_law_top", "_law_path", "_law_store", "_law_told", "_law_chosen", "_law_grid", "_law_piece", "_law_mask", "_law_due", "_law_other", "_law_again", "_law_j", "_law_row"]) (sc := defScope s_law) (by decide +kernel)) (fun _ _ _ _ _ => pg_name (i := 24) sc_law.nd rfl (Or.inl rfl)) (fun _ _ _ _ _ => pts_nil) (fun _ _ _ _ _ => pe_op o_and (pe_op o_shr (pv 19) (pv 24)) (pe_int))) (pa_nil))))))))
    (pss_stop (pss_cons (ps_if (pt_cmp (o_ne hr.units) (pe_ct c_list T.n_list (by decide +kernel) (pa_cons (pe_ix ix_any (pv 15) (pe_int) (fun _ _ => rfl)) (pa_nil))) (pe_slice sl_any (pv 13) (po_none) (po_some (pe_call (G__law_least) (hr.mono (by decide)) T.g__law_least T.k__law_least passL0 (pa_cons (pv 17) (pa_cons (pv 16) (pa_cons (pv 11) (pa_cons (pv 12) (pa_nil)))))))) (nomark _)) (pss_one (ps_ret (pe_bl))) (pss_nil))
    (pss_stop (pss_cons (ps_set (i := 20) sc_law.nd rfl (Or.inl rfl) (pe_call (G__law_choice) (hr.mono (by decide)) T.g__law_choice T.k__law_choice passL0 (pa_cons (pv 17) (pa_cons (pv 16) (pa_cons (pv 11) (pa_cons (pv 12) (pa_nil)))))))
    (pss_stop (pss_cons (ps_if (pt_not (pt_of (pe_call (G__law_is_set) (hr.mono (by decide)) T.g__law_is_set T.k__law_is_set passL0 (pa_cons (pe_ix ix_any (pv 15) (pe_int) (fun _ _ => rfl)) (pa_cons (pv 3) (pa_cons (pv 20) (pa_nil))))))) (pss_one (ps_ret (pe_bl))) (pss_nil))
    (pss_stop (pss_cons (ps_set (i := 21) sc_law.nd rfl (Or.inl rfl) (pe_lst (pa_nil)))
    (pss_stop (pss_cons (ps_for PassesOwn.never rfl (pi_rng (by rfl) T.n_range (pa_cons (pe_cb c_len T.n_len (by decide +kernel) (pa_cons (pv 8) (pa_nil))) (pa_nil))) (pg_name (i := 7) sc_law.nd rfl (Or.inl rfl)) (pss_one (ps_if (pt_cmp (op_inU (u80 hr)) (pe_ix ix_any (pv 8) (pv 7) (fun _ _ => rfl)) (pe_ix ix_any (pv 15) (pe_int) (fun _ _ => rfl)) (by rfl)) (pss_one (ps_expr (pe_ml PySem.F.slot_list_append PySem.F.type_list_append m_app (pv 21) (pa_cons (pe_ix ix_any (pv 9) (pv 7) (fun _ _ => rfl)) (pa_nil))))) (pss_one (ps_expr (pe_ml PySem.F.slot_list_append PySem.F.type_list_append m_app (pv 21) (pa_cons (pe_call (G__law_draw) (hr.mono (by decide)) T.g__law_draw T.k__law_draw passL0 (pa_cons (pv 0) (pa_cons (pv 1) (pa_cons (pe_op o_shl (pe_int) (pv 3)) (pa_nil))))) (pa_nil))))))))
    (pss_stop (pss_cons (ps_set (i := 14) sc_law.nd rfl (Or.inl rfl) (pe_call (G__law_mask_store) (hr.mono (by decide)) T.g__law_mask_store T.k__law_mask_store passL0 (pa_cons (pv 6) (pa_cons (pv 8) (pa_cons (pv 3) (pa_cons (pv 21) (pa_nil)))))))
    (pss_stop (pss_cons (ps_set (i := 22) sc_law.nd rfl (Or.inl rfl) (pe_callK (ks := ["rows", "largest"]) (GK_first_rows_3_rows_largest) (hr.mono (by decide)) T.g_first_rows T.k_first_rows passL0 (pa_cons (pv 14) (pa_cons (pe_ix ix_any (pv 2) (pv 5) (fun _ _ => rfl)) (pa_cons (pv 11) (pa_nil)))) (pk_cons (pe_call (G__law_bitmap) (hr.mono (by decide)) T.g__law_bitmap T.k__law_bitmap passL0 (pa_cons (pv 10) (pa_cons (pv 3) (pa_nil)))) (pk_cons (pv 12) (pk_nil)))))
    (pss_stop (pss_one (ps_ret (pe_and (pe_cmp (o_eq hr.units) (pe_ix ix_any (pv 22) (pe_int) (fun _ _ => rfl)) (pe_ix ix_any (pv 15) (pe_int) (fun _ _ => rfl)) (nomark _)) (pe_one (pe_call (G__law_is_set) (hr.mono (by decide)) T.g__law_is_set T.k__law_is_set passL0 (pa_cons (pe_ix ix_any (pv 22) (pe_int) (fun _ _ => rfl)) (pa_cons (pv 3) (pa_cons (pv 20) (pa_nil))))))))))))))))))))))))))))))))))))))))))))))))))))))))))))))
end
theorem hfacts {w : World} {K : Frag} {h : Heap} {mg : Str → Option Value} {f : Addr} (X : K.In h) (G : h.Ns mainGlobals mg) (hla : mg ("law" : Str) = some (.ref f)) (c : SaysX hfa hfx hfn K) :
    ∃ fd : FuncData, (∀ (s : Shared) (v : Value), BindsTo s fd ⟨[v], []⟩ [("_law_script", v)]) ∧ ∀ base : Heap, K.In base → base.Ns mainGlobals mg → FnOk hP w K mg base CX0 8 f fd ["_law_script"] (sp_law K) := by
  have g_AND := He.glo_ok X G (c.fact 0 (f := .glo "AND") rfl)
  have g_BadBitmap := He.glo_ok X G (c.fact 1 (f := .glo "BadBitmap") rfl)
  have g_BadSchema := He.glo_ok X G (c.fact 2 (f := .glo "BadSchema") rfl)
  have g_Bitmap := He.glo_ok X G (c.fact 3 (f := .glo "Bitmap") rfl)
  have g_LESS := He.glo_ok X G (c.fact 4 (f := .glo "LESS") rfl)
  have g_NoSuchColumn := He.glo_ok X G (c.fact 5 (f := .glo "NoSuchColumn") rfl)
  have g_NoSuchRank := He.glo_ok X G (c.fact 6 (f := .glo "NoSuchRank") rfl)
  have g_NoSuchRow := He.glo_ok X G (c.fact 7 (f := .glo "NoSuchRow") rfl)
  have g_NoSuchSlice := He.glo_ok X G (c.fact 8 (f := .glo "NoSuchSlice") rfl)
  have g_OR := He.glo_ok X G (c.fact 9 (f := .glo "OR") rfl)
  have g_Schema := He.glo_ok X G (c.fact 10 (f := .glo "Schema") rfl)
  have g_SizesDiffer := He.glo_ok X G (c.fact 11 (f := .glo "SizesDiffer") rfl)
  have g_Store := He.glo_ok X G (c.fact 12 (f := .glo "Store") rfl)
  have g__law_bitmap := He.glo_ok X G (c.fact 13 (f := .glo "_law_bitmap") rfl)
  have g__law_choice := He.glo_ok X G (c.fact 14 (f := .glo "_law_choice") rfl)
  have g__law_draw := He.glo_ok X G (c.fact 15 (f := .glo "_law_draw") rfl)
  have g__law_is_number := He.glo_ok X G (c.fact 16 (f := .glo "_law_is_number") rfl)
  have g__law_is_set := He.glo_ok X G (c.fact 17 (f := .glo "_law_is_set") rfl)
  have g__law_least := He.glo_ok X G (c.fact 18 (f := .glo "_law_least") rfl)
  have g__law_mask_store := He.glo_ok X G (c.fact 19 (f := .glo "_law_mask_store") rfl)
  have g__law_names := He.glo_ok X G (c.fact 20 (f := .glo "_law_names") rfl)
  have g__law_settled := He.glo_ok X G (c.fact 21 (f := .glo "_law_settled") rfl)
  have g__law_slices := He.glo_ok X G (c.fact 22 (f := .glo "_law_slices") rfl)
  have g_first_rows := He.glo_ok X G (c.fact 23 (f := .glo "first_rows") rfl)
  have g_is_name := He.glo_ok X G (c.fact 24 (f := .glo "is_name") rfl)
  have g_law := He.glo_ok X G (c.fact 25 (f := .glo "law") rfl)
  have g_next_end := He.glo_ok X G (c.fact 26 (f := .glo "next_end") rfl)
  have g_swept := He.glo_ok X G (c.fact 27 (f := .glo "swept") rfl)
  have g_turned := He.glo_ok X G (c.fact 28 (f := .glo "turned") rfl)
  have n_abs := He.free_ok X G (c.fact 29 (f := .free "abs") rfl)
  have n_bool := He.free_ok X G (c.fact 30 (f := .free "bool") rfl)
  have n_enumerate := He.free_ok X G (c.fact 31 (f := .free "enumerate") rfl)
  have n_int := He.free_ok X G (c.fact 32 (f := .free "int") rfl)
  have n_isinstance := He.free_ok X G (c.fact 33 (f := .free "isinstance") rfl)
  have n_len := He.free_ok X G (c.fact 34 (f := .free "len") rfl)
  have n_list := He.free_ok X G (c.fact 35 (f := .free "list") rfl)
  have n_range := He.free_ok X G (c.fact 36 (f := .free "range") rfl)
  have n_sorted := He.free_ok X G (c.fact 37 (f := .free "sorted") rfl)
  have n_super := He.free_ok X G (c.fact 38 (f := .free "super") rfl)
  have n_tuple := He.free_ok X G (c.fact 39 (f := .free "tuple") rfl)
  have K_Bitmap : Mk K (He.ga K "Bitmap") (He.fAd K ("Bitmap", some "__init__")) := He.mkr_ok (c.fact 40 (f := .mkr "Bitmap") rfl)
  have K_Schema : Mk K (He.ga K "Schema") (He.fAd K ("Schema", some "__init__")) := He.mkr_ok (c.fact 41 (f := .mkr "Schema") rfl)
  have K_Store : Mk K (He.ga K "Store") (He.fAd K ("Store", some "__init__")) := He.mkr_ok (c.fact 42 (f := .mkr "Store") rfl)
  have M_Bitmap_first : Meth K (He.ga K "Bitmap") "first" (He.fAd K ("Bitmap", some "first")) := He.meth_ok (c.fact 43 (f := .meth "Bitmap" "first") rfl)
  have M_Bitmap_nth : Meth K (He.ga K "Bitmap") "nth" (He.fAd K ("Bitmap", some "nth")) := He.meth_ok (c.fact 44 (f := .meth "Bitmap" "nth") rfl)
  have M_Bitmap_paired : Meth K (He.ga K "Bitmap") "paired" (He.fAd K ("Bitmap", some "paired")) := He.meth_ok (c.fact 45 (f := .meth "Bitmap" "paired") rfl)
  have M_Bitmap_rank : Meth K (He.ga K "Bitmap") "rank" (He.fAd K ("Bitmap", some "rank")) := He.meth_ok (c.fact 46 (f := .meth "Bitmap" "rank") rfl)
  have M_Bitmap_runs : Meth K (He.ga K "Bitmap") "runs" (He.fAd K ("Bitmap", some "runs")) := He.meth_ok (c.fact 47 (f := .meth "Bitmap" "runs") rfl)
  have M_Bitmapdd_anddd : Meth K (He.ga K "Bitmap") "__and__" (He.fAd K ("Bitmap", some "__and__")) := He.meth_ok (c.fact 48 (f := .meth "Bitmap" "__and__") rfl)
  have M_Bitmapdd_booldd : Meth K (He.ga K "Bitmap") "__bool__" (He.fAd K ("Bitmap", some "__bool__")) := He.meth_ok (c.fact 49 (f := .meth "Bitmap" "__bool__") rfl)
  have M_Bitmapdd_containsdd : Meth K (He.ga K "Bitmap") "__contains__" (He.fAd K ("Bitmap", some "__contains__")) := He.meth_ok (c.fact 50 (f := .meth "Bitmap" "__contains__") rfl)
  have M_Bitmapdd_invertdd : Meth K (He.ga K "Bitmap") "__invert__" (He.fAd K ("Bitmap", some "__invert__")) := He.meth_ok (c.fact 51 (f := .meth "Bitmap" "__invert__") rfl)
  have M_Bitmapdd_ordd : Meth K (He.ga K "Bitmap") "__or__" (He.fAd K ("Bitmap", some "__or__")) := He.meth_ok (c.fact 52 (f := .meth "Bitmap" "__or__") rfl)
  have M_Bitmapdd_subdd : Meth K (He.ga K "Bitmap") "__sub__" (He.fAd K ("Bitmap", some "__sub__")) := He.meth_ok (c.fact 53 (f := .meth "Bitmap" "__sub__") rfl)
  have M_Schema_all_slices : Meth K (He.ga K "Schema") "all_slices" (He.fAd K ("Schema", some "all_slices")) := He.meth_ok (c.fact 54 (f := .meth "Schema" "all_slices") rfl)
  have M_Schema_width_of : Meth K (He.ga K "Schema") "width_of" (He.fAd K ("Schema", some "width_of")) := He.meth_ok (c.fact 55 (f := .meth "Schema" "width_of") rfl)
  have M_Store_fetch : Meth K (He.ga K "Store") "fetch" (He.fAd K ("Store", some "fetch")) := He.meth_ok (c.fact 56 (f := .meth "Store" "fetch") rfl)
  have Z_LETTERS : ∃ t, mg "LETTERS" = some (.str "abcdefghijklmnopqrstuvwxyz" t) := He.str_ok X G (c.fact 57 (f := .str "LETTERS" "abcdefghijklmnopqrstuvwxyz") rfl)
  have Z_LONGEST : ∃ t, mg "LONGEST" = some (.int 8 t) := He.int_ok X G (c.fact 58 (f := .int "LONGEST" 8) rfl)
  have C_Bitmap : CF K "Bitmap" ["ends", "size"] := cfB_ok (c.more 0 (f := cfB "Bitmap" ["ends", "size"]) rfl)
  have D_Schema : DF K "Schema" [] ["columns"] := dfB_ok (c.more 1 (f := dfB "Schema" [] ["columns"]) rfl)
  have D_Store : DF K "Store" [] ["schema", "size", "held", "log"] := dfB_ok (c.more 2 (f := dfB "Store" [] ["schema", "size", "held", "log"]) rfl)
  have E_Bitmapdd_initdd_0 : EmpT K (V.ref (He.dflAt ("Bitmap", some "__init__") 0 K)) := empB_ok (c.more 3 (f := fun K => empB K (V.ref (He.dflAt ("Bitmap", some "__init__") 0 K))) rfl)
  have P_Bitmap_ones : PropF K "Bitmap" "ones" (uA K "Bitmap" "ones") := propB_ok (c.more 4 (f := propB "Bitmap" "ones") rfl)
  have R_BadBitmap : RsF K "BadBitmap" := rsB_ok (c.more 5 (f := rsB "BadBitmap") rfl)
  have R_BadSchema : RsF K "BadSchema" := rsB_ok (c.more 6 (f := rsB "BadSchema") rfl)
  have R_SizesDiffer : RsF K "SizesDiffer" := rsB_ok (c.more 7 (f := rsB "SizesDiffer") rfl)
  have St_Bitmap_empty : StF K "Bitmap" "empty" := statB_ok (c.more 8 (f := statB "Bitmap" "empty") rfl)
  have St_Bitmap_full : StF K "Bitmap" "full" := statB_ok (c.more 9 (f := statB "Bitmap" "full") rfl)
  have St_Bitmap_span : StF K "Bitmap" "span" := statB_ok (c.more 10 (f := statB "Bitmap" "span") rfl)
  have U_AND : TupG K "AND" [V.int 0, V.int 0, V.int 0, V.int 1] := tupG_ok (vs := [.int 0, .int 0, .int 0, .int 1]) (c.more 11 (f := fun K => He.tupB K "AND" [.int 0, .int 0, .int 0, .int 1]) rfl)
  have U_LESS : TupG K "LESS" [V.int 0, V.int 0, V.int 1, V.int 0] := tupG_ok (vs := [.int 0, .int 0, .int 1, .int 0]) (c.more 12 (f := fun K => He.tupB K "LESS" [.int 0, .int 0, .int 1, .int 0]) rfl)
  have U_OR : TupG K "OR" [V.int 0, V.int 1, V.int 1, V.int 1] := tupG_ok (vs := [.int 0, .int 1, .int 1, .int 1]) (c.more 13 (f := fun K => He.tupB K "OR" [.int 0, .int 1, .int 1, .int 1]) rfl)
  have X_BadBitmap : ExF K "BadBitmap" ["SliceError"] := exfB_ok (c.more 14 (f := exfB "BadBitmap" ["SliceError"]) rfl)
  have X_BadSchema : ExF K "BadSchema" ["SliceError"] := exfB_ok (c.more 15 (f := exfB "BadSchema" ["SliceError"]) rfl)
  have X_NoSuchColumn : ExF K "NoSuchColumn" ["SliceError"] := exfB_ok (c.more 16 (f := exfB "NoSuchColumn" ["SliceError"]) rfl)
  have X_NoSuchRank : ExF K "NoSuchRank" ["SliceError"] := exfB_ok (c.more 17 (f := exfB "NoSuchRank" ["SliceError"]) rfl)
  have X_NoSuchRow : ExF K "NoSuchRow" ["SliceError"] := exfB_ok (c.more 18 (f := exfB "NoSuchRow" ["SliceError"]) rfl)
  have X_NoSuchSlice : ExF K "NoSuchSlice" ["SliceError"] := exfB_ok (c.more 19 (f := exfB "NoSuchSlice" ["SliceError"]) rfl)
  have X_SizesDiffer : ExF K "SizesDiffer" ["SliceError"] := exfB_ok (c.more 20 (f := exfB "SizesDiffer" ["SliceError"]) rfl)
  have Xi_NoSuchColumn : ∃ fd, XiF hP K "NoSuchColumn" "name" "__init__" "NoSuchColumn.__init__" (defArgs s_NoSuchColumndd_initdd) (defBody s_NoSuchColumndd_initdd) (defScope s_NoSuchColumndd_initdd) (He.fAd K ("NoSuchColumn", some "__init__")) fd := xi_of (c.fnv 37 (d := ⟨fun K => He.fAd K ("NoSuchColumn", some "__init__"), "__init__", "NoSuchColumn.__init__", defArgs s_NoSuchColumndd_initdd, defBody s_NoSuchColumndd_initdd, defScope s_NoSuchColumndd_initdd, [], [], ["__class__"]⟩) rfl) (c.more 21 (f := xiB hP "NoSuchColumn" "name") rfl)
  have Xi_NoSuchRank : ∃ fd, XiF hP K "NoSuchRank" "number" "__init__" "NoSuchRank.__init__" (defArgs s_NoSuchRankdd_initdd) (defBody s_NoSuchRankdd_initdd) (defScope s_NoSuchRankdd_initdd) (He.fAd K ("NoSuchRank", some "__init__")) fd := xi_of (c.fnv 38 (d := ⟨fun K => He.fAd K ("NoSuchRank", some "__init__"), "__init__", "NoSuchRank.__init__", defArgs s_NoSuchRankdd_initdd, defBody s_NoSuchRankdd_initdd, defScope s_NoSuchRankdd_initdd, [], [], ["__class__"]⟩) rfl) (c.more 22 (f := xiB hP "NoSuchRank" "number") rfl)
  have Xi_NoSuchRow : ∃ fd, XiF hP K "NoSuchRow" "row" "__init__" "NoSuchRow.__init__" (defArgs s_NoSuchRowdd_initdd) (defBody s_NoSuchRowdd_initdd) (defScope s_NoSuchRowdd_initdd) (He.fAd K ("NoSuchRow", some "__init__")) fd := xi_of (c.fnv 39 (d := ⟨fun K => He.fAd K ("NoSuchRow", some "__init__"), "__init__", "NoSuchRow.__init__", defArgs s_NoSuchRowdd_initdd, defBody s_NoSuchRowdd_initdd, defScope s_NoSuchRowdd_initdd, [], [], ["__class__"]⟩) rfl) (c.more 23 (f := xiB hP "NoSuchRow" "row") rfl)
  have Xi_NoSuchSlice : ∃ fd, XiF2 hP K "NoSuchSlice" "name" "place" "__init__" "NoSuchSlice.__init__" (defArgs s_NoSuchSlicedd_initdd) (defBody s_NoSuchSlicedd_initdd) (defScope s_NoSuchSlicedd_initdd) (He.fAd K ("NoSuchSlice", some "__init__")) fd := xi2_of (c.fnv 40 (d := ⟨fun K => He.fAd K ("NoSuchSlice", some "__init__"), "__init__", "NoSuchSlice.__init__", defArgs s_NoSuchSlicedd_initdd, defBody s_NoSuchSlicedd_initdd, defScope s_NoSuchSlicedd_initdd, [], [], ["__class__"]⟩) rfl) (c.more 24 (f := xiB2 hP "NoSuchSlice" "name" "place") rfl)
  have F__law_draw := c.def_ 0 rfl
  have F__law_names := c.def_ 1 rfl
  have F__law_slices := c.def_ 2 rfl
  have F_Bitmapdd_initdd := c.def_ 3 rfl
  have F__law_bitmap := c.def_ 4 rfl
  have F_is_name := c.def_ 5 rfl
  have F_Schemadd_initdd := c.def_ 6 rfl
  have F_Schema_all_slices := c.def_ 7 rfl
  have F_Storedd_initdd := c.def_ 8 rfl
  have F__law_mask_store := c.def_ 9 rfl
  have F_Schema_width_of := c.def_ 10 rfl
  have F_turned := c.def_ 11 rfl
  have F_Bitmap_full := c.def_ 12 rfl
  have F_Bitmap_empty := c.def_ 13 rfl
  have F_Bitmapdd_booldd := c.def_ 14 rfl
  have F_Store_fetch := c.def_ 15 rfl
  have F_next_end := c.def_ 16 rfl
  have F_swept := c.def_ 17 rfl
  have F_Bitmap_paired := c.def_ 18 rfl
  have F_Bitmapdd_anddd := c.def_ 19 rfl
  have F_Bitmap_rank := c.def_ 20 rfl
  have F_Bitmap_ones := c.def_ 21 rfl
  have F_Bitmapdd_subdd := c.def_ 22 rfl
  have F_Bitmapdd_invertdd := c.def_ 23 rfl
  have F_Bitmapdd_ordd := c.def_ 24 rfl
  have F_Bitmap_runs := c.def_ 25 rfl
  have F_Bitmap_nth := c.def_ 26 rfl
  have F_Bitmap_span := c.def_ 27 rfl
  have F_Bitmap_first := c.def_ 28 rfl
  have F_first_rows := c.def_ 29 rfl
  have F__law_choice := c.def_ 30 rfl
  have F__law_settled := c.def_ 31 rfl
  have F__law_least := c.def_ 32 rfl
  have F__law_is_number := c.def_ 33 rfl
  have F_Bitmapdd_containsdd := c.def_ 34 rfl
  have F__law_is_set := c.def_ 35 rfl
  have F_law := c.def_ 36 rfl
  have T : T0 hP K mg := ⟨n_abs, n_bool, n_enumerate, n_int, n_isinstance, n_len, n_list, n_range, n_sorted, n_super, n_tuple, g_AND, g_BadBitmap, g_BadSchema, g_Bitmap, g_LESS, g_NoSuchColumn, g_NoSuchRank, g_NoSuchRow, g_NoSuchSlice, g_OR, g_Schema, g_SizesDiffer, g_Store, g__law_bitmap, g__law_choice, g__law_draw, g__law_is_number, g__law_is_set, g__law_least, g__law_mask_store, g__law_names, g__law_settled, g__law_slices, g_first_rows, g_is_name, g_law, g_next_end, g_swept, g_turned, F__law_draw, (let ⟨_, F⟩ := F__law_draw; F.kp), F__law_names, (let ⟨_, F⟩ := F__law_names; F.kp), F__law_slices, (let ⟨_, F⟩ := F__law_slices; F.kp), F_Bitmapdd_initdd, (let ⟨_, F⟩ := F_Bitmapdd_initdd; F.kp), F__law_bitmap, (let ⟨_, F⟩ := F__law_bitmap; F.kp), F_is_name, (let ⟨_, F⟩ := F_is_name; F.kp), F_Schemadd_initdd, (let ⟨_, F⟩ := F_Schemadd_initdd; F.kp), F_Schema_all_slices, (let ⟨_, F⟩ := F_Schema_all_slices; F.kp), F_Storedd_initdd, (let ⟨_, F⟩ := F_Storedd_initdd; F.kp), F__law_mask_store, (let ⟨_, F⟩ := F__law_mask_store; F.kp), F_Schema_width_of, (let ⟨_, F⟩ := F_Schema_width_of; F.kp), F_turned, (let ⟨_, F⟩ := F_turned; F.kp), F_Bitmap_full, (let ⟨_, F⟩ := F_Bitmap_full; F.kp), F_Bitmap_empty, (let ⟨_, F⟩ := F_Bitmap_empty; F.kp), F_Bitmapdd_booldd, (let ⟨_, F⟩ := F_Bitmapdd_booldd; F.kp), F_Store_fetch, (let ⟨_, F⟩ := F_Store_fetch; F.kp), F_next_end, (let ⟨_, F⟩ := F_next_end; F.kp), F_swept, (let ⟨_, F⟩ := F_swept; F.kp), F_Bitmap_paired, (let ⟨_, F⟩ := F_Bitmap_paired; F.kp), F_Bitmapdd_anddd, (let ⟨_, F⟩ := F_Bitmapdd_anddd; F.kp), F_Bitmap_rank, (let ⟨_, F⟩ := F_Bitmap_rank; F.kp), F_Bitmap_ones, (let ⟨_, F⟩ := F_Bitmap_ones; F.kp), F_Bitmapdd_subdd, (let ⟨_, F⟩ := F_Bitmapdd_subdd; F.kp), F_Bitmapdd_invertdd, (let ⟨_, F⟩ := F_Bitmapdd_invertdd; F.kp), F_Bitmapdd_ordd, (let ⟨_, F⟩ := F_Bitmapdd_ordd; F.kp), F_Bitmap_runs, (let ⟨_, F⟩ := F_Bitmap_runs; F.kp), F_Bitmap_nth, (let ⟨_, F⟩ := F_Bitmap_nth; F.kp), F_Bitmap_span, (let ⟨_, F⟩ := F_Bitmap_span; F.kp), F_Bitmap_first, (let ⟨_, F⟩ := F_Bitmap_first; F.kp), F_first_rows, (let ⟨_, F⟩ := F_first_rows; F.kp), F__law_choice, (let ⟨_, F⟩ := F__law_choice; F.kp), F__law_settled, (let ⟨_, F⟩ := F__law_settled; F.kp), F__law_least, (let ⟨_, F⟩ := F__law_least; F.kp), F__law_is_number, (let ⟨_, F⟩ := F__law_is_number; F.kp), F_Bitmapdd_containsdd, (let ⟨_, F⟩ := F_Bitmapdd_containsdd; F.kp), F__law_is_set, (let ⟨_, F⟩ := F__law_is_set; F.kp), F_law, (let ⟨_, F⟩ := F_law; F.kp), C_Bitmap, D_Schema, D_Store, E_Bitmapdd_initdd_0, K_Bitmap, K_Schema, K_Store, M_Bitmap_first, M_Bitmap_nth, M_Bitmap_paired, M_Bitmap_rank, M_Bitmap_runs, M_Bitmapdd_anddd, M_Bitmapdd_booldd, M_Bitmapdd_containsdd, M_Bitmapdd_invertdd, M_Bitmapdd_ordd, M_Bitmapdd_subdd, M_Schema_all_slices, M_Schema_width_of, M_Store_fetch, P_Bitmap_ones, R_BadBitmap, R_BadSchema, R_SizesDiffer, St_Bitmap_empty, St_Bitmap_full, St_Bitmap_span, U_AND, U_LESS, U_OR, X_BadBitmap, X_BadSchema, X_NoSuchColumn, X_NoSuchRank, X_NoSuchRow, X_NoSuchSlice, X_SizesDiffer, Xi_NoSuchColumn, Xi_NoSuchRank, Xi_NoSuchRow, Xi_NoSuchSlice, Z_LETTERS, Z_LONGEST⟩
  obtain ⟨fd, F⟩ := F_law
  have e := hla.symm.trans g_law
  cases e
  have b := FunD.bindsA (ps := ["_law_script"]) F fun _ _ _ _ _ _ us hl => match us, hl with | [_], _ => rfl
  exact ⟨fd, fun s v => b s [v] rfl, fun base _ _ => ok_law T F⟩
end S
theorem PySem.Challenge.cw_slicedcolumns_k72_whole_first_rows_exact_holds : PySem.Challenge.rw_slicedcolumns_k72_whole_first_rows_exact.Holds :=
  hopenS fun _ _ _ _ _ X G z c => S.hfacts X G z c
