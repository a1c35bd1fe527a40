import PyProof.Rows.All
import Wide.All
import OpenK.AllK
import Wide.FinOn
import HandS.Base
import HandS.Words
import HandS.Call
import HandS.Exc
import HandS.ExcField
import HandS.HotCalls
import KE.KNestM
import HandS.Head0
import HandS.Head1
import HandS.Head2
import HandS.HeadHook1
import HandS.HeadHook2
import HandS.HeadHook3
import HandS.List
import HandS.Comp
import HandS.Text
import HandS.Iter
import HandS.Ends
import HandS.ExcOwn
import HandS.ExcCtx
import PyProof.StrOps2
import PyProof.ReprRoads
import PyProof.StrLawsRepr
import PyProof.Rows.RegReprOcc
import KE.GoesNew
import KE.GoesEnumKw
import HandS.Flow
import HandS.Walk
import HandS.WideBits
import HandS.Evl
import HandS.Style
import KE.GoesMore
import HandS.More
import HandS.CallLocal
import HandS.IsInst
import HandS.Defaults
import HandS.FStr
import HandS.ExcInit
import PyProof.ExcBaseAll.IndexError
import PyProof.ExcBaseAll.LookupError
import PyProof.ExcBaseAll.OverflowError
import PyProof.ExcBaseAll.RuntimeError
import PyProof.ExcBaseAll.ValueError
import KE.KExcInit
import PyProof.Rows.FactsExc_KeyError
import KE.KCallOwn
import KE.KUnpackStar
import HandS.RaiseMore
import HandS.Small
import PyProof.ListRange
import PyProof.SliceList
import HandS.DictSub
import PyProof.Conv_bool
import PyProof.SumWalkG
import PyProof.Rows.SumAny
import HandS.Steps
import HandS.ExcIs
import PyProof.Rows.TupIter
import KE.KTryMore
import KE.KExcHand
import HandS.Lambda
import HandS.EndBits
import HandS.Replace
import PyProof.Rows.ReprOcc
import PyProof.ListStr
import HandS.IntHex
import HandS.StrMore
import PySem.Challenge.RW_countedbits_k04_what_are_no_codes
set_option Elab.async false
set_option linter.all false
set_option maxRecDepth 99999
set_option maxHeartbeats 5000000
/-! Z, part UA: what the one run of the head looks at -/
namespace Z
open PySem PySem.Spec PyProof.Rows L2 L2H HotX
/-- a text by its signs -/
abbrev T (l : List Nat) : V := .str ⟨l.toArray⟩
/-! ### what the top's names reach -/
def partsZ (g : Addr → Option Obj) (a : Addr) : List Addr := match g a with
  | some ⟨_, _, .func fd, _⟩ => He.refV fd.code ++ (He.refV fd.defaults ++ He.refV fd.kwdefaults)
  | some ⟨_, _, .cls cd, _⟩ => [cd.ns]
  | _ => []
def valsZ (g : Addr → Option Obj) (a : Addr) : List Addr := match g a with
  | some ⟨_, _, .dict es _, _⟩ => es.toList.flatMap fun e => He.refV e.val
  | _ => []
def frL {α β : Type} : List α → (List α → β) → β
  | [], k => k []
  | a :: r, k => frL r fun r' => k (a :: r')
theorem frL_eq {α β : Type} : ∀ (l : List α) (k : List α → β), frL l k = k l
  | [], _ => rfl
  | a :: r, k => by
    show frL r (fun r' => k (a :: r')) = _
    rw [frL_eq r]
def asZ {β : Type} (g : Addr → Option Obj) (k : List Addr → β) : β :=
  frL (valsZ g mainGlobals) fun l1 => frL (l1.flatMap (partsZ g)) fun l2 => frL (l2.flatMap (valsZ g)) fun l3 => frL (l3.flatMap (partsZ g)) fun l4 => frL (mainGlobals :: cStatics :: (l1 ++ (l2 ++ (l3 ++ l4)))) k
theorem asZ_eq {β : Type} (g : Addr → Option Obj) (k : List Addr → β) : ∃ as, asZ g k = k as := by
  unfold asZ
  rw [frL_eq, frL_eq, frL_eq, frL_eq, frL_eq]
  exact ⟨_, rfl⟩
abbrev AlZ : Type := Bool × List He.FnW × List (Option (List (Option (Str × Int))))
def obsZ (fb : PySem.W.Frag → Bool) (fs : List ((Str × Option Str) × He.FnW)) (ts : List He.Tab) (K : PySem.W.Frag) : AlZ := (fb K, fs.map fun d => He.fnW K d.1, ts.map fun t => He.dicW K (t.1 K))
def valZ (fs : List ((Str × Option Str) × He.FnW)) (ts : List He.Tab) (w : World) : AlZ := (true, fs.map fun d => d.2, ts.map fun t => some (He.keysIn w.params t.2))
def obsZG (fb : PySem.W.Frag → Bool) (fs : List ((Str × Option Str) × He.FnW)) (ts : List He.Tab) (g : Addr → Option Obj) : AlZ := asZ g fun as => frL (He.frG g as) fun K => obsZ fb fs ts K
def SaysZ (fb : PySem.W.Frag → Bool) (fs : List ((Str × Option Str) × He.FnW)) (ts : List He.Tab) (w : World) (K : PySem.W.Frag) : Prop := obsZ fb fs ts K = valZ fs ts w
def hookZ (fb : PySem.W.Frag → Bool) (fs : List ((Str × Option Str) × He.FnW)) (ts : List He.Tab) : PySem.W.Hook where
  α := AlZ
  obs := fun s => obsZG fb fs ts s.heap.get?
  val := fun w => valZ fs ts w
  says := fun w h => ∃ K : PySem.W.Frag, K.In h ∧ SaysZ fb fs ts w K
  of := fun w s e => by
    unfold obsZG at e
    obtain ⟨as, ea⟩ := asZ_eq s.heap.get? fun as => frL (He.frG s.heap.get? as) fun K => obsZ fb fs ts K
    rw [ea, frL_eq] at e
    exact ⟨_, He.frG_in, e⟩
  keeps := fun _ _ _ ⟨K, hK, c⟩ k => ⟨K, PySem.W.Frag.In.keeps hK k, c⟩
theorem obsZG_eq {fb : PySem.W.Frag → Bool} {fs : List ((Str × Option Str) × He.FnW)} {ts : List He.Tab} {g : Addr → Option Obj} {s : Shared} (h : ∀ a, g a = s.heap.get? a) : obsZG fb fs ts g = (hookZ fb fs ts).obs s := by
  have e : g = s.heap.get? := funext h
  rw [e] <;> rfl
def fnB (K : PySem.W.Frag) (p : Str × Option Str) (pr : Value → Value → Value → Bool) : Bool := match K.lookup (He.fAd K p) with
  | some ⟨_, _, .func fd, _⟩ => pr fd.defaults fd.kwdefaults fd.code
  | _ => false
def noneB : Value → Bool
  | .none => true
  | _ => false
def clsB (o : Option PySem.W.CFound) (n : String) : Bool := match o with
  | some (.val (.builtin m)) => decide (m = n)
  | _ => false
def excZ (K : PySem.W.Frag) (C : Addr) (tl : List Value) (newId : String) : Bool := match K.lookup C with
  | some ⟨.type t, _, .cls cd, sl⟩ => decide (t = "type") && (match cd.mro, sl.toList with
    | .ref C' :: bm, [_, _, _, _, some (.builtin n), _] => decide (C' = C) && (decide (n = newId) && (!cd.hasDel && (cd.hasDict && decide (bm = tl))))
    | _, _ => false)
  | _ => false
/-- a class of errors: its place, its name, its field, its class of Python's or its own above -/
structure Ref where
  C : Addr
  nm : List Nat
  fo : Option Str
  up : Value
def excB (K : PySem.W.Frag) (D : Addr) : Bool :=
  decide (PySem.W.findIn K (.ref D) "__getattribute__" = some (some (.builtin "BaseException.__getattribute__"))) && (decide (PySem.W.findIn K (.ref D) "__getattr__" = some none) && (decide (PySem.W.subIn K (.ref D) (.type "BaseException") = some true) && (PySem.W.hasDictIn K D &&
    (decide (PySem.W.findIn K (.ref D) "__class__" = some (some (.builtin "object.__class__"))) && (decide (PySem.W.specialIn K (.builtin "object.__class__") "__get__" = some (some (.builtin "getset_descriptor.__get__"))) &&
      (decide (PySem.W.takesIn K (.builtin "object.__class__") = some true) && decide (PySem.W.mroIn K D (.type "object") = some true)))))))
def kitT (K : PySem.W.Frag) (C : Addr) (v : Value) : Bool := (PySem.W.kitOne K (.ref C) v).getD false
def kitS (K : PySem.W.Frag) (C : Addr) (v : Value) : Bool := (PySem.W.kitOne K (.ref C) v).isSome
/-- of the class at i, among all -/
def refOne (K : PySem.W.Frag) (R : List Ref) (vE cE : Value) (i : Nat) (r : Ref) : Bool :=
  excB K r.C && (xfB K r.C && ((match r.fo with | none => true | some f => decide (PySem.W.findIn K (.ref r.C) f = some none)) && ((R.zipIdx.all fun p => kitS K r.C p.1.up && decide (PySem.W.kitOne K (.ref r.C) (.ref p.1.C) = some (decide (i = p.2))) && decide (PySem.W.exmOne K (.ref r.C) (.ref p.1.C) = some (decide (i = p.2)))) &&
    (kitT K r.C r.up && (kitS K r.C vE && (kitS K r.C cE && (kitT K r.C vE == kitT K r.C cE)))))))
def refB (K : PySem.W.Frag) (R : List Ref) (vE cE : Value) : Bool := R.zipIdx.all fun p => refOne K R vE cE p.2 p.1
/-- where the def's table lies -/
def tabP (K : PySem.W.Frag) (x : Str) : Addr := ((PySem.W.tabIn K x).getD (0, 0)).2
def tabB (K : PySem.W.Frag) (x : Str) : Bool := match PySem.W.tabIn K x with
  | some (_, P) => (K.lookup P).isNone
  | none => false
end Z
namespace My
open PySem PySem.Spec PyProof.Rows L2 Z
def topS (i : Nat) : Stmt := PySem.Challenge.pw_countedbits_k04_what_are_no_codes.main.body.getD i (.Pass ⟨0, 0, 0, 0⟩)
def clsS (s : Stmt) (j : Nat) : Stmt := L2.inClass s j
abbrev st_NoCode_init : Stmt := clsS (topS 2) 0
abbrev st_NoBits_init : Stmt := clsS (topS 3) 0
abbrev st_NoTree_init : Stmt := clsS (topS 4) 0
abbrev st_NoPage_init : Stmt := clsS (topS 5) 0
abbrev st_NoRow_init : Stmt := clsS (topS 9) 0
abbrev st_NoPlace_init : Stmt := clsS (topS 10) 0
abbrev st_NoNode_init : Stmt := clsS (topS 11) 0
abbrev st_NoLetter_init : Stmt := clsS (topS 12) 0
abbrev st_Full_init : Stmt := clsS (topS 14) 0
abbrev st_Torn_init : Stmt := clsS (topS 15) 0
abbrev st_read_plain : Stmt := topS 20
abbrev st_read_number : Stmt := topS 21
abbrev st_other_bit : Stmt := topS 22
abbrev st_read_runs : Stmt := topS 23
abbrev st_read_code : Stmt := topS 25
abbrev st_law_urn : Stmt := topS 27
abbrev st_law_draw : Stmt := topS 28
abbrev st_law_which : Stmt := topS 29
abbrev st_law_told : Stmt := topS 30
abbrev st_law_odd : Stmt := topS 31
abbrev st_law_bits : Stmt := topS 32
abbrev st_law_runs : Stmt := topS 33
abbrev st_law_number_code : Stmt := topS 34
abbrev st_law_codes : Stmt := topS 35
abbrev st_law_block : Stmt := topS 36
abbrev st_law_goes_on : Stmt := topS 37
abbrev st_law_code_due : Stmt := topS 38
abbrev st_law_block_of : Stmt := topS 39
abbrev st_law_spoilt_code : Stmt := topS 40
abbrev st_law_looked_right : Stmt := topS 41
abbrev st_law : Stmt := topS 42
abbrev refs (C_NoCode C_CountError C_NoBits C_NoTree C_NoPage C_NoWord C_NoTurned C_NoStretch C_NoRow C_NoPlace C_NoNode C_NoLetter C_NoDeed C_Full C_Torn C_Busy : Addr) : List Ref := [⟨C_NoCode, [78, 111, 67, 111, 100, 101], some "at", .ref C_CountError⟩, ⟨C_NoBits, [78, 111, 66, 105, 116, 115], some "at", .ref C_CountError⟩, ⟨C_NoTree, [78, 111, 84, 114, 101, 101], some "at", .ref C_CountError⟩, ⟨C_NoPage, [78, 111, 80, 97, 103, 101], some "at", .ref C_CountError⟩, ⟨C_NoWord, [78, 111, 87, 111, 114, 100], none, .ref C_CountError⟩, ⟨C_NoTurned, [78, 111, 84, 117, 114, 110, 101, 100], none, .ref C_CountError⟩, ⟨C_NoStretch, [78, 111, 83, 116, 114, 101, 116, 99, 104], none, .ref C_CountError⟩, ⟨C_NoRow, [78, 111, 82, 111, 119], some "row", .ref C_CountError⟩, ⟨C_NoPlace, [78, 111, 80, 108, 97, 99, 101], some "at", .type "IndexError"⟩, ⟨C_NoNode, [78, 111, 78, 111, 100, 101], some "node", .type "KeyError"⟩, ⟨C_NoLetter, [78, 111, 76, 101, 116, 116, 101, 114], some "letter", .type "LookupError"⟩, ⟨C_NoDeed, [78, 111, 68, 101, 101, 100], none, .type "LookupError"⟩, ⟨C_Full, [70, 117, 108, 108], some "many", .type "OverflowError"⟩, ⟨C_Torn, [84, 111, 114, 110], some "at", .type "RuntimeError"⟩, ⟨C_Busy, [66, 117, 115, 121], none, .type "RuntimeError"⟩]
end My
namespace My
open PySem PySem.Spec PyProof.Rows L2 Z
def fb0 (K : PySem.W.Frag) : List Bool := [Z.fnB K ("_law_urn", none) fun dV kV cd => PySem.W.codeIn K cd "_law_urn" && (Z.noneB dV && true),
  Z.fnB K ("_law_number_code", none) fun dV kV cd => PySem.W.codeIn K cd "_law_number_code" && (Z.noneB dV && true),
  Z.fnB K ("_law_runs", none) fun dV kV cd => PySem.W.codeIn K cd "_law_runs" && (Z.noneB dV && true),
  Z.fnB K ("_law_codes", none) fun dV kV cd => PySem.W.codeIn K cd "_law_codes" && (Z.noneB dV && true),
  Z.fnB K ("_law_draw", none) fun dV kV cd => PySem.W.codeIn K cd "_law_draw" && (Z.noneB dV && true),
  Z.fnB K ("_law_bits", none) fun dV kV cd => PySem.W.codeIn K cd "_law_bits" && (Z.noneB dV && true),
  Z.fnB K ("_law_odd", none) fun dV kV cd => PySem.W.codeIn K cd "_law_odd" && (Z.noneB dV && true),
  Z.fnB K ("_law_block", none) fun dV kV cd => PySem.W.codeIn K cd "_law_block" && (Z.noneB dV && true),
  Z.fnB K ("_law_spoilt_code", none) fun dV kV cd => PySem.W.codeIn K cd "_law_spoilt_code" && (Z.noneB dV && true),
  Z.fnB K ("_law_goes_on", none) fun dV kV cd => PySem.W.codeIn K cd "_law_goes_on" && (Z.noneB dV && true),
  Z.fnB K ("_law_block_of", none) fun dV kV cd => PySem.W.codeIn K cd "_law_block_of" && (Z.noneB dV && true),
  Z.fnB K ("_law_code_due", none) fun dV kV cd => PySem.W.codeIn K cd "_law_code_due" && (Z.noneB dV && true)]
def fb1 (K : PySem.W.Frag) : List Bool := [Z.fnB K ("_law_which", none) fun dV kV cd => PySem.W.codeIn K cd "_law_which" && (Z.noneB dV && true),
  Z.fnB K ("_law_told", none) fun dV kV cd => PySem.W.codeIn K cd "_law_told" && (Z.noneB dV && true),
  Z.fnB K ("NoCode", some "__init__") fun dV kV cd => PySem.W.codeIn K cd "NoCode.__init__" && (Z.noneB dV && true),
  Z.fnB K ("read_plain", none) fun dV kV cd => PySem.W.codeIn K cd "read_plain" && (Z.noneB dV && true),
  Z.fnB K ("read_number", none) fun dV kV cd => PySem.W.codeIn K cd "read_number" && (Z.noneB dV && true),
  Z.fnB K ("other_bit", none) fun dV kV cd => PySem.W.codeIn K cd "other_bit" && (Z.noneB dV && true),
  Z.fnB K ("read_runs", none) fun dV kV cd => PySem.W.codeIn K cd "read_runs" && (Z.noneB dV && true),
  Z.fnB K ("read_code", none) fun dV kV cd => PySem.W.codeIn K cd "read_code" && (Z.noneB dV && true),
  Z.fnB K ("_law_looked_right", none) fun dV kV cd => PySem.W.codeIn K cd "_law_looked_right" && (Z.noneB dV && true),
  Z.fnB K ("law", none) fun dV kV cd => PySem.W.codeIn K cd "law" && (Z.noneB dV && true),
  He.eqO (PySem.W.nsIn K mainGlobals "IndexError") (some none),
  He.eqO (PySem.W.nsIn K mainGlobals "KeyError") (some none)]
def fb2 (K : PySem.W.Frag) : List Bool := [He.eqO (PySem.W.nsIn K mainGlobals "LookupError") (some none),
  He.eqO (PySem.W.nsIn K mainGlobals "OverflowError") (some none),
  He.eqO (PySem.W.nsIn K mainGlobals "RuntimeError") (some none),
  He.eqO (PySem.W.nsIn K mainGlobals "ValueError") (some none),
  He.eqO (PySem.W.nsIn K mainGlobals "abs") (some none),
  He.eqO (PySem.W.nsIn K mainGlobals "all") (some none),
  He.eqO (PySem.W.nsIn K mainGlobals "enumerate") (some none),
  He.eqO (PySem.W.nsIn K mainGlobals "int") (some none),
  He.eqO (PySem.W.nsIn K mainGlobals "isinstance") (some none),
  He.eqO (PySem.W.nsIn K mainGlobals "len") (some none),
  He.eqO (PySem.W.nsIn K mainGlobals "max") (some none),
  He.eqO (PySem.W.nsIn K mainGlobals "min") (some none)]
def fb3 (K : PySem.W.Frag) : List Bool := [He.eqO (PySem.W.nsIn K mainGlobals "range") (some none),
  He.eqO (PySem.W.nsIn K mainGlobals "repr") (some none),
  He.eqO (PySem.W.nsIn K mainGlobals "str") (some none),
  (He.Fa.int "MOST_BITS" 64).ok K,
  (He.Fa.str "BITS" ⟨([48, 49] : List Nat).toArray⟩).ok K,
  He.eqO (PySem.W.nsIn K mainGlobals "NoCode") (some (some (.ref (He.ga K "NoCode")))),
  He.eqO (PySem.W.nsIn K mainGlobals "CountError") (some (some (.ref (He.ga K "CountError")))),
  He.eqO (PySem.W.nsIn K mainGlobals "Busy") (some (some (.ref (He.ga K "Busy")))),
  He.eqO (PySem.W.nsIn K mainGlobals "Full") (some (some (.ref (He.ga K "Full")))),
  He.eqO (PySem.W.nsIn K mainGlobals "NoBits") (some (some (.ref (He.ga K "NoBits")))),
  He.eqO (PySem.W.nsIn K mainGlobals "NoDeed") (some (some (.ref (He.ga K "NoDeed")))),
  He.eqO (PySem.W.nsIn K mainGlobals "NoLetter") (some (some (.ref (He.ga K "NoLetter"))))]
def fb4 (K : PySem.W.Frag) : List Bool := [He.eqO (PySem.W.nsIn K mainGlobals "NoNode") (some (some (.ref (He.ga K "NoNode")))),
  He.eqO (PySem.W.nsIn K mainGlobals "NoPage") (some (some (.ref (He.ga K "NoPage")))),
  He.eqO (PySem.W.nsIn K mainGlobals "NoPlace") (some (some (.ref (He.ga K "NoPlace")))),
  He.eqO (PySem.W.nsIn K mainGlobals "NoRow") (some (some (.ref (He.ga K "NoRow")))),
  He.eqO (PySem.W.nsIn K mainGlobals "NoStretch") (some (some (.ref (He.ga K "NoStretch")))),
  He.eqO (PySem.W.nsIn K mainGlobals "NoTree") (some (some (.ref (He.ga K "NoTree")))),
  He.eqO (PySem.W.nsIn K mainGlobals "NoTurned") (some (some (.ref (He.ga K "NoTurned")))),
  He.eqO (PySem.W.nsIn K mainGlobals "NoWord") (some (some (.ref (He.ga K "NoWord")))),
  He.eqO (PySem.W.nsIn K mainGlobals "Torn") (some (some (.ref (He.ga K "Torn")))),
  Z.excZ K (He.ga K "NoCode") [.ref (He.ga K "CountError"), .type "ValueError", .type "Exception", .type "BaseException", .type "object"] "ValueError.__new__",
  He.eqO (PySem.W.findIn K (.ref (He.ga K "NoCode")) "__setattr__") (some (some (.builtin "object.__setattr__"))),
  decide (PySem.W.subIn K (.ref (He.ga K "NoCode")) (.type "BaseException") = some true)]
def fb5 (K : PySem.W.Frag) : List Bool := [decide (PySem.W.typeIn K (.ref (He.ga K "NoCode")) = some (.type "type")),
  PySem.W.keepIn K (.ref (He.ga K "NoCode")),
  He.eqO (PySem.W.findIn K (.ref (He.ga K "NoCode")) "at") (some none),
  PySem.W.readsIn K (He.ga K "CountError") (.type "type"),
  He.eqO (PySem.W.specialIn K (.ref (He.ga K "CountError")) "__getattribute__") (some (some (.builtin "type.__getattribute__"))),
  Z.clsB (PySem.W.findCls K (.ref (He.ga K "CountError")) (.type "type") "__init__") "ValueError.__init__",
  He.eqO (PySem.W.nsIn K mainGlobals "_law_urn") (some (some (.ref (He.fAd K ("_law_urn", none))))),
  PySem.W.keepIn K (.ref (He.fAd K ("_law_urn", none))),
  He.eqO (PySem.W.nsIn K mainGlobals "_law_number_code") (some (some (.ref (He.fAd K ("_law_number_code", none))))),
  PySem.W.keepIn K (.ref (He.fAd K ("_law_number_code", none))),
  He.eqO (PySem.W.nsIn K mainGlobals "_law_runs") (some (some (.ref (He.fAd K ("_law_runs", none))))),
  PySem.W.keepIn K (.ref (He.fAd K ("_law_runs", none)))]
def fb6 (K : PySem.W.Frag) : List Bool := [He.eqO (PySem.W.nsIn K mainGlobals "_law_codes") (some (some (.ref (He.fAd K ("_law_codes", none))))),
  PySem.W.keepIn K (.ref (He.fAd K ("_law_codes", none))),
  He.eqO (PySem.W.nsIn K mainGlobals "_law_draw") (some (some (.ref (He.fAd K ("_law_draw", none))))),
  PySem.W.keepIn K (.ref (He.fAd K ("_law_draw", none))),
  He.eqO (PySem.W.nsIn K mainGlobals "_law_bits") (some (some (.ref (He.fAd K ("_law_bits", none))))),
  PySem.W.keepIn K (.ref (He.fAd K ("_law_bits", none))),
  He.eqO (PySem.W.nsIn K mainGlobals "_law_odd") (some (some (.ref (He.fAd K ("_law_odd", none))))),
  PySem.W.keepIn K (.ref (He.fAd K ("_law_odd", none))),
  He.eqO (PySem.W.nsIn K mainGlobals "_law_block") (some (some (.ref (He.fAd K ("_law_block", none))))),
  PySem.W.keepIn K (.ref (He.fAd K ("_law_block", none))),
  He.eqO (PySem.W.nsIn K mainGlobals "_law_spoilt_code") (some (some (.ref (He.fAd K ("_law_spoilt_code", none))))),
  PySem.W.keepIn K (.ref (He.fAd K ("_law_spoilt_code", none)))]
def fb7 (K : PySem.W.Frag) : List Bool := [He.eqO (PySem.W.nsIn K mainGlobals "_law_goes_on") (some (some (.ref (He.fAd K ("_law_goes_on", none))))),
  PySem.W.keepIn K (.ref (He.fAd K ("_law_goes_on", none))),
  He.eqO (PySem.W.nsIn K mainGlobals "_law_block_of") (some (some (.ref (He.fAd K ("_law_block_of", none))))),
  PySem.W.keepIn K (.ref (He.fAd K ("_law_block_of", none))),
  He.eqO (PySem.W.nsIn K mainGlobals "_law_code_due") (some (some (.ref (He.fAd K ("_law_code_due", none))))),
  PySem.W.keepIn K (.ref (He.fAd K ("_law_code_due", none))),
  He.eqO (PySem.W.nsIn K mainGlobals "_law_which") (some (some (.ref (He.fAd K ("_law_which", none))))),
  PySem.W.keepIn K (.ref (He.fAd K ("_law_which", none))),
  He.eqO (PySem.W.nsIn K mainGlobals "_law_told") (some (some (.ref (He.fAd K ("_law_told", none))))),
  PySem.W.keepIn K (.ref (He.fAd K ("_law_told", none))),
  He.eqO (PySem.W.findIn K (.ref (He.ga K "NoCode")) "__init__") (some (some (.ref (He.fAd K ("NoCode", some "__init__"))))),
  decide (PySem.W.typeIn K (.ref (He.fAd K ("NoCode", some "__init__"))) = some (.type "function"))]
def fb8 (K : PySem.W.Frag) : List Bool := [PySem.W.keepIn K (.ref (He.fAd K ("NoCode", some "__init__"))),
  He.eqO (PySem.W.nsIn K mainGlobals "read_plain") (some (some (.ref (He.fAd K ("read_plain", none))))),
  PySem.W.keepIn K (.ref (He.fAd K ("read_plain", none))),
  He.eqO (PySem.W.nsIn K mainGlobals "read_number") (some (some (.ref (He.fAd K ("read_number", none))))),
  PySem.W.keepIn K (.ref (He.fAd K ("read_number", none))),
  He.eqO (PySem.W.nsIn K mainGlobals "other_bit") (some (some (.ref (He.fAd K ("other_bit", none))))),
  PySem.W.keepIn K (.ref (He.fAd K ("other_bit", none))),
  He.eqO (PySem.W.nsIn K mainGlobals "read_runs") (some (some (.ref (He.fAd K ("read_runs", none))))),
  PySem.W.keepIn K (.ref (He.fAd K ("read_runs", none))),
  He.eqO (PySem.W.nsIn K mainGlobals "read_code") (some (some (.ref (He.fAd K ("read_code", none))))),
  PySem.W.keepIn K (.ref (He.fAd K ("read_code", none))),
  He.eqO (PySem.W.nsIn K mainGlobals "_law_looked_right") (some (some (.ref (He.fAd K ("_law_looked_right", none)))))]
def fb9 (K : PySem.W.Frag) : List Bool := [PySem.W.keepIn K (.ref (He.fAd K ("_law_looked_right", none))),
  He.eqO (PySem.W.nsIn K mainGlobals "law") (some (some (.ref (He.fAd K ("law", none))))),
  PySem.W.keepIn K (.ref (He.fAd K ("law", none))),
  He.eqO (PySem.W.nsIn K mainGlobals "READERS") (some (some (.ref (He.ga K "READERS")))),
  He.eqO (PySem.W.nsIn K (He.ga K "READERS") "p") (some (some (.ref (He.fAd K ("read_plain", none))))),
  He.eqO (PySem.W.nsIn K (He.ga K "READERS") "r") (some (some (.ref (He.fAd K ("read_runs", none))))),
  refB K (refs (He.ga K "NoCode") (He.ga K "CountError") (He.ga K "NoBits") (He.ga K "NoTree") (He.ga K "NoPage") (He.ga K "NoWord") (He.ga K "NoTurned") (He.ga K "NoStretch") (He.ga K "NoRow") (He.ga K "NoPlace") (He.ga K "NoNode") (He.ga K "NoLetter") (He.ga K "NoDeed") (He.ga K "Full") (He.ga K "Torn") (He.ga K "Busy")) (.type "ValueError") (.ref (He.ga K "CountError")),
  tabB K "_law_looked_right"]
def fb (K : PySem.W.Frag) : Bool := (fb0 K).all id && ((fb1 K).all id && ((fb2 K).all id && ((fb3 K).all id && ((fb4 K).all id && ((fb5 K).all id && ((fb6 K).all id && ((fb7 K).all id && ((fb8 K).all id && ((fb9 K).all id && (true))))))))))
def fs0 : List ((Str × Option Str) × He.FnW) := [(("_law_urn", none), some ("_law_urn", "_law_urn", defArgs st_law_urn, .stmts (defBody st_law_urn), defScope st_law_urn, mainGlobals, [], builtinsNs)),
  (("_law_number_code", none), some ("_law_number_code", "_law_number_code", defArgs st_law_number_code, .stmts (defBody st_law_number_code), defScope st_law_number_code, mainGlobals, [], builtinsNs)),
  (("_law_runs", none), some ("_law_runs", "_law_runs", defArgs st_law_runs, .stmts (defBody st_law_runs), defScope st_law_runs, mainGlobals, [], builtinsNs)),
  (("_law_codes", none), some ("_law_codes", "_law_codes", defArgs st_law_codes, .stmts (defBody st_law_codes), defScope st_law_codes, mainGlobals, [], builtinsNs)),
  (("_law_draw", none), some ("_law_draw", "_law_draw", defArgs st_law_draw, .stmts (defBody st_law_draw), defScope st_law_draw, mainGlobals, [], builtinsNs)),
  (("_law_bits", none), some ("_law_bits", "_law_bits", defArgs st_law_bits, .stmts (defBody st_law_bits), defScope st_law_bits, mainGlobals, [], builtinsNs)),
  (("_law_odd", none), some ("_law_odd", "_law_odd", defArgs st_law_odd, .stmts (defBody st_law_odd), defScope st_law_odd, mainGlobals, [], builtinsNs)),
  (("_law_block", none), some ("_law_block", "_law_block", defArgs st_law_block, .stmts (defBody st_law_block), defScope st_law_block, mainGlobals, [], builtinsNs)),
  (("_law_spoilt_code", none), some ("_law_spoilt_code", "_law_spoilt_code", defArgs st_law_spoilt_code, .stmts (defBody st_law_spoilt_code), defScope st_law_spoilt_code, mainGlobals, [], builtinsNs)),
  (("_law_goes_on", none), some ("_law_goes_on", "_law_goes_on", defArgs st_law_goes_on, .stmts (defBody st_law_goes_on), defScope st_law_goes_on, mainGlobals, [], builtinsNs)),
  (("_law_block_of", none), some ("_law_block_of", "_law_block_of", defArgs st_law_block_of, .stmts (defBody st_law_block_of), defScope st_law_block_of, mainGlobals, [], builtinsNs)),
  (("_law_code_due", none), some ("_law_code_due", "_law_code_due", defArgs st_law_code_due, .stmts (defBody st_law_code_due), defScope st_law_code_due, mainGlobals, [], builtinsNs))]
def fs1 : List ((Str × Option Str) × He.FnW) := [(("_law_which", none), some ("_law_which", "_law_which", defArgs st_law_which, .stmts (defBody st_law_which), defScope st_law_which, mainGlobals, [], builtinsNs)),
  (("_law_told", none), some ("_law_told", "_law_told", defArgs st_law_told, .stmts (defBody st_law_told), defScope st_law_told, mainGlobals, [], builtinsNs)),
  (("NoCode", some "__init__"), some ("__init__", "NoCode.__init__", defArgs st_NoCode_init, .stmts (defBody st_NoCode_init), defScope st_NoCode_init, mainGlobals, [], builtinsNs)),
  (("read_plain", none), some ("read_plain", "read_plain", defArgs st_read_plain, .stmts (defBody st_read_plain), defScope st_read_plain, mainGlobals, [], builtinsNs)),
  (("read_number", none), some ("read_number", "read_number", defArgs st_read_number, .stmts (defBody st_read_number), defScope st_read_number, mainGlobals, [], builtinsNs)),
  (("other_bit", none), some ("other_bit", "other_bit", defArgs st_other_bit, .stmts (defBody st_other_bit), defScope st_other_bit, mainGlobals, [], builtinsNs)),
  (("read_runs", none), some ("read_runs", "read_runs", defArgs st_read_runs, .stmts (defBody st_read_runs), defScope st_read_runs, mainGlobals, [], builtinsNs)),
  (("read_code", none), some ("read_code", "read_code", defArgs st_read_code, .stmts (defBody st_read_code), defScope st_read_code, mainGlobals, [], builtinsNs)),
  (("_law_looked_right", none), some ("_law_looked_right", "_law_looked_right", defArgs st_law_looked_right, .stmts (defBody st_law_looked_right), defScope st_law_looked_right, mainGlobals, [], builtinsNs)),
  (("law", none), some ("law", "law", defArgs st_law, .stmts (defBody st_law), defScope st_law, mainGlobals, [], builtinsNs))]
def fs : List ((Str × Option Str) × He.FnW) := fs0 ++ (fs1)
def ts : List He.Tab := [((fun K => He.ga K "READERS"), ["p", "r"])]
def lo0 : List Str := ["CountError", "NoCode", "NoBits", "NoTree", "NoPage", "NoWord", "NoTurned", "NoStretch", "NoRow", "NoPlace", "NoNode", "NoLetter"]
def lo1 : List Str := ["NoDeed", "Full", "Torn", "Busy", "MOST_BITS", "BITS", "read_plain", "read_number", "other_bit", "read_runs", "READERS", "read_code"]
def lo2 : List Str := ["_law_urn", "_law_draw", "_law_which", "_law_told", "_law_odd", "_law_bits", "_law_runs", "_law_number_code", "_law_codes", "_law_block", "_law_goes_on", "_law_code_due"]
def lo3 : List Str := ["_law_block_of", "_law_spoilt_code"]
def lo : List Str := lo0 ++ (lo1 ++ (lo2 ++ (lo3)))
abbrev hR : PySem.W.OpenRow := PySem.W.OpenLaw.row PySem.Challenge.rw_countedbits_k04_what_are_no_codes
abbrev hq : Program := PySem.W.view hR.prog [41, 42]
abbrev hk : PySem.W.Hook := Z.hookZ fb fs ts
def ob (s : PySem.W.SharedT) : Z.AlZ := Z.obsZG fb fs ts (HandSHeadRun.getT s)
theorem ob_eq (s : PySem.W.SharedT) : ob s = hk.obs s.abs := Z.obsZG_eq (HandSHeadRun.getT_eq s)
theorem run_false (w : World) : HandSHeadRun.RunEq hR hq hk ob 30000 lo (w.withFollow "special-get-raises" false) := by
  intro os
  kernel_rfl
theorem run_true (w : World) : HandSHeadRun.RunEq hR hq hk ob 30000 lo (w.withFollow "special-get-raises" true) := by
  intro os
  kernel_rfl
theorem hd_runs (w : World) : HandSHeadRun.RunEq hR hq hk ob 30000 lo w := PySem.W.byRow2 "special-get-raises" run_false run_true w
end My
/-! Z, part A: defs whose surroundings have no repr under way; their calls; the law's own call. -/
namespace Z
open PySem PySem.Spec PyProof.Rows L2
/-- a def's promise where no guard is laid around -/
structure FnG (P : Program) (w : World) (K : PySem.W.Frag) (mg : Str → Option Value) (base : Heap) (k : Nat)
    (f : Addr) (fd : FuncData) (ps : List Str) (sp : Sp) : Prop where
  len : ∀ vs H Q E, sp vs H Q E → vs.length = ps.length
  run : ∀ (A : Around) (outer : List Env) (s : Shared) (H : Hp) (args : Args) (us : List Value) (vs : List V) (Q : VK) (E : XK),
    Room k A → A.guards = some [] → Env0 P w K mg base A outer s H → BindsTo s fd args (ps.zip us) → Vals vs us →
    sp vs H Q E → codeAny (model P w) A (.call (.ref f) args) (CR (L2N.CX P w) outer P w H s Q E) s
section
variable {P : Program} {w : World} {K : PySem.W.Frag} {mg : Str → Option Value} {base : Heap}
theorem FnG.mono {j k : Nat} {f : Addr} {fd : FuncData} {ps : List Str} {sp : Sp} (F : FnG P w K mg base j f fd ps sp) (h : j ≤ k) :
    FnG P w K mg base k f fd ps sp :=
  ⟨F.len, fun A o s H a us vs Q E r => F.run A o s H a us vs Q E (r.mono h)⟩
/-- what the text says of a def: its object, its code -/
structure Txt (K : PySem.W.Frag) (x qual : Str) (args : Arguments) (body : List Stmt) (sc : Scope) (dV kV : Value) (f : Addr) (fd : FuncData) : Prop where
  ex : ∃ (oc : Value) (od : Option Addr) (doc pm : Value) (an : Option Addr) (cdv ct : Value) (osl : Array (Option Value)),
    fd = PySem.W.fnOf x qual args body sc dV kV doc pm an cdv ct ∧ K.lookup f = some ⟨oc, od, .func fd, osl⟩ ∧ PySem.W.codeIn K cdv qual = true
  kp : PySem.W.keepIn K (.ref f) = true
/-- the body of a def, in its own frame -/
abbrev cx (P : Program) (w : World) (K : PySem.W.Frag) (mg : Str → Option Value) (base : Heap) (N : List Str) (qual : Str) (sc : Scope)
    (f : Addr) (cd : Value) (A : Around) (outer : List Env) (s : Shared) (H : Hp) (E : XK) : Cx :=
  cxOf (L2N.CX P w) P w K mg base N qual sc f cd A outer s H E
theorem z_fnC {x qual : Str} {args : Arguments} {body : List Stmt} {sc : Scope} {dV kV : Value} {f : Addr} {fd : FuncData}
    {N ps : List Str} {k : Nat} {sp : Sp} (T : Txt K x qual args body sc dV kV f fd) (S : FnScope N ps sc)
    (len : ∀ vs H Q E, sp vs H Q E → vs.length = ps.length)
    (hb : ∀ (cd : Value), fd.code = cd → ∀ (A : Around) (outer : List Env) (s : Shared) (H : Hp) (vs : List V) (Q : VK) (E : XK),
      Room k (A.deeper (envOfC qual sc s.heap.objs.size f cd)) → A.guards = some [] → sp vs H Q E →
      ∃ (t : TS) (σ : L2.St), start N vs = σ ∧ PSs (cx P w K mg base N qual sc f cd A outer s H E) body t ∧
        t { nx := fun _ H' => Q .non H', rt := Q } σ H) :
    FnG P w K mg base (k + 1) f fd ps sp := by
  obtain ⟨oc, od, doc, pm, an, cd, ct, osl, rfl, lk, hcd⟩ := T.ex
  refine ⟨len, ?_⟩
  intro A outer s H a us vs Q E room noG e0 binds rel want
  obtain ⟨t, σ, eσ, derived, goal⟩ := hb cd rfl A outer s H vs Q E (room.deeper _) noG want
  subst eσ
  have inHeap : K.In s.heap := e0.mod.kin.keeps fun b o q => (e0.bs b o q).1
  have noLim : s.heap.NoLimit := e0.mod.nolimit.keeps fun b o q => (e0.bs b o q).1
  refine codeAny_call_function room.depth (inHeap _ _ lk) rfl S.co S.gen rfl (PySem.W.codeRec_of inHeap hcd) (binds _ _ _ _ ?_)
  have kinds : ∀ y ∈ ps.zip us, sc.names.lookup y.1 = some .local ∨
      (sc.names.lookup y.1 = some .cell ∧ ((cellsFrom (s.heap.objs.size + 1) sc.names []).lookup y.1).isSome = true) := by
    rintro ⟨n, v⟩ hy
    have hn : n ∈ ps := (List.of_mem_zip hy).1
    cases S.par n hn with
    | inl q => exact .inl q
    | inr q => exact .inr ⟨q, PySem.W.cellsFrom_some _ _ _ (.inl q)⟩
  refine wpAny_newFunctionEnv_cells S.kind kinds fun env he s1 x => ?_
  subst he
  refine ⟨noLim.keeps x.toInCall.keep, codeAny_func ?_⟩
  have I0 := inv_start (CX := L2N.CX P w) (P := P) (w := w) (K := K) (mg := mg) (base := base) (f := f) (cd := cd) (E := E) S room.hd e0 (len _ _ _ _ want) rel x
  refine wpAny_mono (derived.run [] s1 _ H _ I0 goal) ?_ fun e s' hs => hs
  intro fl s' hs
  cases fl with
  | next =>
    obtain ⟨σ2, H2, J, q⟩ := hs
    exact ⟨.non, H2, J.os, J.bare, J.base, J.hok, rfl, q⟩
  | ret u =>
    obtain ⟨v, σ2, H2, J, rv, q⟩ := hs
    exact ⟨v, H2, J.os, J.bare, J.base, J.hok, rv, q⟩
  | brk => exact hs.elim fun _ z => z.elim fun _ z => z.2.elim
  | cont => exact hs.elim fun _ z => z.elim fun _ z => z.2.elim
theorem z_fn {x qual : Str} {args : Arguments} {body : List Stmt} {sc : Scope} {dV kV : Value} {f : Addr} {fd : FuncData}
    {N ps : List Str} {k : Nat} {sp : Sp} (T : Txt K x qual args body sc dV kV f fd) (S : FnScope N ps sc)
    (len : ∀ vs H Q E, sp vs H Q E → vs.length = ps.length)
    (hb : ∀ (cd : Value) (A : Around) (outer : List Env) (s : Shared) (H : Hp) (vs : List V) (Q : VK) (E : XK),
      Room k (A.deeper (envOfC qual sc s.heap.objs.size f cd)) → A.guards = some [] → sp vs H Q E →
      ∃ (t : TS) (σ : L2.St), start N vs = σ ∧ PSs (cx P w K mg base N qual sc f cd A outer s H E) body t ∧
        t { nx := fun _ H' => Q .non H', rt := Q } σ H) :
    FnG P w K mg base (k + 1) f fd ps sp := z_fnC T S len fun cd _ => hb cd
/-- a def that stands under a global name, with the values of its defaults -/
structure Def (P : Program) (w : World) (K : PySem.W.Frag) (mg : Str → Option Value) (base : Heap) (k : Nat) (x : Str) (dvs : List V) (sp : Sp) : Prop where
  ex : ∃ (f : Addr) (fd : FuncData) (ps : List Str) (ds : List Value), FnG P w K mg base k f fd ps sp ∧ mg x = some (.ref f) ∧
    PySem.W.keepIn K (.ref f) = true ∧ Binds K fd ps ds ∧ Vals dvs ds
theorem Def.mono {j k : Nat} {x : Str} {dvs : List V} {sp : Sp} (D : Def P w K mg base j x dvs sp) (h : j ≤ k) : Def P w K mg base k x dvs sp := by
  obtain ⟨f, fd, ps, ds, F, r⟩ := D.ex
  exact ⟨f, fd, ps, ds, F.mono h, r⟩
/-- a method of a class -/
structure Mth (P : Program) (w : World) (K : PySem.W.Frag) (mg : Str → Option Value) (base : Heap) (k : Nat) (C : Addr) (m : Str) (dvs : List V) (sp : Sp) : Prop where
  cls : Cls K C
  ex : ∃ (f : Addr) (fd : FuncData) (ps : List Str) (ds : List Value), FnG P w K mg base k f fd ps sp ∧ Meth K C m f ∧ Binds K fd ps ds ∧ Vals dvs ds
theorem Mth.mono {j k : Nat} {C : Addr} {m : Str} {dvs : List V} {sp : Sp} (D : Mth P w K mg base j C m dvs sp) (h : j ≤ k) : Mth P w K mg base k C m dvs sp := by
  obtain ⟨f, fd, ps, ds, F, r⟩ := D.ex
  exact ⟨D.cls, f, fd, ps, ds, F.mono h, r⟩
end
section
variable {X : Cx} {k : Nat} {f : Addr} {fd : FuncData} {ps : List Str} {sp : Sp} {dvs : List V} {ds : List Value} {E : XK}
/-- the callee runs -/
theorem run_g {pins : List (Addr × Obj)} {σ : L2.St} {H : Hp} {s : Shared} {Q : VK} {us : List Value} {vs : List V}
    (F : FnG X.prog X.w X.K X.mg X.base k f fd ps sp) (room : Room k X.A) (noG : X.A.guards = some []) (hb : Binds X.K fd ps ds) (hd : Vals dvs ds)
    (hx : ∀ e s', L2N.CX X.prog X.w X.stack H s E e s' → X.xe e s') (I : Inv X pins σ H s) (rel : Vals vs us) (want : sp (vs ++ dvs) H Q E) :
    wpAny (model X.prog X.w) X.A (call (.ref f) us) (EP X pins σ Q) X.xe s := by
  have rel2 : Vals (vs ++ dvs) (us ++ ds) := rel.append hd
  have many : (us ++ ds).length = ps.length := rel2.length ▸ F.len _ _ _ _ want
  have ran := F.run X.A X.stack s H ⟨us, []⟩ (us ++ ds) (vs ++ dvs) Q E room noG I.env0 (hb s us I.kIn many) rel2 want
  refine wpAny_call (codeAny_mono ran ?_)
  intro r s' hr
  match r, hr with
  | .error e, hr => exact hx e s' hr
  | .ok (.ret u), hr => exact I.after hr
  | .ok .next, hr => exact False.elim hr
  | .ok .brk, hr => exact False.elim hr
  | .ok .cont, hr => exact False.elim hr
/-- f(..) -/
def tC1 (sp : Sp) (dvs : List V) (E : L2.St → XK) (t : TA) : TE := fun σ H Q => t σ H fun vs H1 => sp (vs ++ dvs) H1 Q (E σ)
variable {x m : Str} {p pos apos : Pos} {e o : Expr} {es : List Expr} {ta : TE} {t : TA} {W : WX}
theorem pe_f (D : Def X.prog X.w X.K X.mg X.base k x dvs sp) (room : Room k X.A) (noG : X.A.guards = some []) (hg : Gl X x)
    (tk : ∀ pins σ H s, Inv X pins σ H s → ∀ e s', L2N.CX X.prog X.w X.stack H s (fun c d H' => W c d σ H') e s' → X.xe e s')
    (ha : PA X (e :: es) t) (hdb : (x == ("__debug__" : Str)) = false := by decide)
    (he : starEach (e :: es) X.env = (false, eval e X.env) :: starEach es X.env := by rfl)
    (hpl : (backTo pos (starEach es X.env)).any (·.1) = false := by rfl) :
    PE X (.Call (.Name x p) (e :: es) [] pos) (tC1 sp dvs (fun σ c d H' => W c d σ H') t) := by
  obtain ⟨f, fd, ps, ds, F, hm, hk, hb, hd⟩ := D.ex
  constructor
  intro pins s σ H Q I h
  refine wpAny_Call_Name_kw (ld_glob I hg hm ?_ hdb)
  refine PySem.W.callWith_K (h₀ := X.base) I.ok.mod.kin hk (thn (ha.run pos pins s σ H _ I h) ?_) he hpl
  rintro us s1 ⟨vs, H1, I1, rel, want⟩
  exact ⟨I1.kIn, run_g F room noG hb hd (tk _ _ _ _ I1) I1 rel want⟩
theorem pe_f0 (D : Def X.prog X.w X.K X.mg X.base k x dvs sp) (room : Room k X.A) (noG : X.A.guards = some []) (hg : Gl X x)
    (tk : ∀ pins σ H s, Inv X pins σ H s → ∀ e s', L2N.CX X.prog X.w X.stack H s (fun c d H' => W c d σ H') e s' → X.xe e s')
    (hdb : (x == ("__debug__" : Str)) = false := by decide) :
    PE X (.Call (.Name x p) [] [] pos) (tC1 sp dvs (fun σ c d H' => W c d σ H') tNil) := by
  obtain ⟨f, fd, ps, ds, F, hm, hk, hb, hd⟩ := D.ex
  constructor
  intro pins s σ H Q I h
  refine wpAny_Call_Name_kw (ld_glob I hg hm ?_ hdb)
  exact PySem.W.callWith_K0 I.kIn hk (run_g (us := []) F room noG hb hd (tk _ _ _ _ I) I .nil h)
/-- nothing is raised: any surroundings will do -/
theorem tk0 {X : Cx} : ∀ (pins : List (Addr × Obj)) (σ : L2.St) (H : Hp) (s : Shared), Inv X pins σ H s → ∀ e s',
    L2N.CX X.prog X.w X.stack H s (fun c d H' => (fun _ _ _ _ => False : WX) c d σ H') e s' → X.xe e s' := by
  intro _ _ _ _ _ e s' c
  obtain ⟨_, _, _, _, _, _, _, _, _, _, _, _, no⟩ := c
  exact no.elim
/-- what is raised is taken around -/
theorem tkW {X : Cx} {W : WX} (tk : L2N.Takes X W) : ∀ (pins : List (Addr × Obj)) (σ : L2.St) (H : Hp) (s : Shared), Inv X pins σ H s → ∀ e s',
    L2N.CX X.prog X.w X.stack H s (fun c d H' => W c d σ H') e s' → X.xe e s' :=
  fun _ _ _ _ I e s' c => tk e s' (L2N.XE.of_call I (fun _ _ _ q => q) c)
end
end Z
namespace Z
open PySem PySem.Spec PyProof.Rows L2
theorem takes_ {X : Cx} {E : XK} (hs : X.stack = X.env :: X.outer) (hf : X.env.frame = some X.env.locals) (hex : X.ex = []) {E₁ : Value → Shared → Prop}
    (hx : X.xe = fun e s' => wpAny (model X.prog X.w) X.A (leaving X.env e) (fun _ s'' => L2N.CX X.prog X.w X.outer X.H_0 X.s_0 E e s'') E₁ s') : L2N.Takes X (fun cls d _ H => E cls d H) := L2N.takes_of hs hf hex hx
end Z
/-! Z, part B: the law's own call where its promise asks that no guard is laid. -/
namespace Z
open PySem PySem.Spec PyProof.Rows L2
/-- from an abstract heap that tracks the script at most, known to its object -/
theorem law_from {P : Program} {w : World} {K : PySem.W.Frag} {mg mb : Str → Option Value} {k : Nat} {fa a : Addr} {fd : FuncData} {x : Str} {sp : Sp} {s₁ : Shared} {oa : Obj} {H : Hp}
    (inK : K.In s₁.heap) (ns : s₁.heap.Ns mainGlobals mg) (bl : s₁.heap.Ns builtinsNs mb) (bl2 : ∀ x : Str, x ≠ "__name__" → mb x = bootBuiltins x)
    (lim : s₁.heap.NoLimit) (noGens : s₁.gens = #[]) (obj : s₁.heap.get? a = some oa) (notDict : ∀ es ep, oa.data ≠ .dict es ep) (room : Room k callerA)
    (F : ∀ base : Heap, K.In base → base.Ns mainGlobals mg → FnG P w K mg base k fa fd [x] sp) (binds : ∀ (s : Shared) (u : Value), BindsTo s fd ⟨[u], []⟩ [(x, u)])
    (want : sp [.ref a] H (fun v _ => v = .bl true) fun _ _ _ => False) (ok : HOk P w H s₁.heap)
    (only : ∀ b, H b = none ∨ (b = a ∧ K.lookup a = none ∧ ∃ o xs, H b = some (.frz o (.lst xs)))) :
    codeAny (model P w) callerA (.call (.ref fa) ⟨[.ref a], []⟩) (fun r s' => r = .ok (.ret (.bool true)) ∧ OldK s₁.heap s'.heap ∧ s'.os = s₁.os ∧ AllBare s'.gens) s₁ := by
  -- a namespace is no list: it stands in what is not tracked
  have free : ∀ {b : Addr} {o : Obj} {es : Array DictEntry} {ep : Nat}, s₁.heap.get? b = some o → o.data = .dict es ep → H b = none := by
    intro b o es ep q d
    rcases only b with z | ⟨rfl, _, _⟩
    · exact z
    · rw [obj] at q
      exact absurd (Option.some.inj q ▸ d) (notDict es ep)
  have nsH : ∀ {b : Addr} {m : Str → Option Value}, s₁.heap.Ns b m → (hidT s₁.heap H).Ns b m := by
    rintro b m ⟨o, es, ep, q, d, more⟩
    exact ⟨o, es, ep, hidT_get q (free q d), d, more⟩
  have inB : K.In (hidT s₁.heap H) := by
    intro b o q
    refine hidT_get (inK b o q) ?_
    rcases only b with z | ⟨rfl, no, _⟩
    · exact z
    · rw [no] at q
      cases q
  have module : Mod K mg (hidT s₁.heap H) := by
    obtain ⟨mc, l1, l2⟩ := lim
    exact ⟨inB, nsH ns, ⟨mb, nsH bl, bl2⟩, mc, nsH l1, l2⟩
  have e0 : Env0 P w K mg (hidT s₁.heap H) callerA [] s₁ H :=
    { frames := rfl, mod := module, bs := fun b o q => of_hidT q, bsz := Nat.le_of_eq (hidT_size _ _), funs := trivial,
      frf := fun b hb => absurd hb List.not_mem_nil, hok := ok, bare := .of_eq noGens }
  have ran := (F _ inB (nsH ns)).run callerA [] s₁ H ⟨[.ref a], []⟩ [.ref a] [.ref a] _ _ room rfl e0 (binds s₁ (.ref a)) (.cons rfl .nil) want
  refine codeAny_mono ran ?_
  intro r s' hr
  match r, hr with
  | .error e, hr =>
    obtain ⟨_, _, _, _, _, _, _, _, _, _, _, _, no⟩ := hr
    exact no.elim
  | .ok .next, hr => exact False.elim hr
  | .ok .brk, hr => exact False.elim hr
  | .ok .cont, hr => exact False.elim hr
  | .ok (.ret u), hr =>
    obtain ⟨v, H2, os, bare, un, ok2, rv, rfl⟩ := hr
    obtain rfl : u = Value.bool true := rv
    refine ⟨rfl, OldK.of_keep ?_, os, bare⟩
    intro b o q
    rcases only b with z | ⟨_, _, ob, xs, z⟩
    · exact un.keep b o q z List.not_mem_nil List.not_mem_nil
    · have was := (ok b _ z).1
      have is := (ok2 b _ (un.frzs b ob _ z)).1
      rw [was] at q
      exact (Option.some.inj q) ▸ is
theorem law_g {P : Program} {w : World} {K : PySem.W.Frag} {mg mb : Str → Option Value} {k : Nat} {fa a : Addr} {fd : FuncData} {x : Str} {sp : Sp} {s₁ : Shared} {vs : List Value} {ns : List Int}
    (inK : K.In s₁.heap) (hns : s₁.heap.Ns mainGlobals mg) (bl : s₁.heap.Ns builtinsNs mb) (bl2 : ∀ x : Str, x ≠ "__name__" → mb x = bootBuiltins x)
    (lim : s₁.heap.NoLimit) (noGens : s₁.gens = #[]) (obj : s₁.heap.get? a = some { cls := .type "list", data := .seq vs.toArray }) (hints : IntsAre vs ns) (short : ns.length ≤ sizeLine) (room : Room k callerA)
    (F : ∀ base : Heap, K.In base → base.Ns mainGlobals mg → FnG P w K mg base k fa fd [x] sp) (binds : ∀ (s : Shared) (u : Value), BindsTo s fd ⟨[u], []⟩ [(x, u)])
    (want : ∀ H : Hp, SqL K H a (ns.map V.int) → sp [.ref a] H (fun v _ => v = .bl true) fun _ _ _ => False) :
    codeAny (model P w) callerA (.call (.ref fa) ⟨[.ref a], []⟩) (fun r s' => r = .ok (.ret (.bool true)) ∧ OldK s₁.heap s'.heap ∧ s'.os = s₁.os ∧ AllBare s'.gens) s₁ := by
  have rel : Vals (ns.map V.int) vs := vals_ints hints
  have many : (ns.map V.int).length ≤ sizeLine := by rw [List.length_map]; exact short
  match known : K.lookup a with
  | some o =>
    have same : o = ({ cls := .type "list", data := .seq vs.toArray } : Obj) := Option.some.inj ((inK a o known).symm.trans obj)
    subst same
    refine law_from (H := fun _ => none) inK hns bl bl2 lim noGens obj (fun _ _ z => nomatch z) room F binds (want _ ?_) (fun b u z => nomatch z) fun _ => .inl rfl
    exact .inr ⟨_, vs.toArray, _, known, rfl, rfl, rfl, by rw [List.size_toArray, hints.length]; exact short, by simpa using rel⟩
  | none =>
    have at_ : upd (fun _ => none) a (.frz { cls := .type "list", data := .seq vs.toArray } (.lst (ns.map V.int))) a = _ := upd_same
    refine law_from inK hns bl bl2 lim noGens obj (fun _ _ z => nomatch z) room F binds (want _ (.inl (.inr ⟨_, at_⟩))) ?_ ?_
    · intro b u z
      by_cases q : b = a
      · subst q
        obtain rfl := Option.some.inj (at_.symm.trans z)
        exact ⟨obj, many, vs, _, rel, obj⟩
      · rw [upd_ne q] at z
        cases z
    · intro b
      by_cases q : b = a
      · subst q
        exact .inr ⟨rfl, known, _, _, at_⟩
      · exact .inl (by rw [upd_ne q])
/-- the law's walk, from its promise -/
theorem walk_g {l : PySem.W.OpenLaw} {n k : Nat} {q : Program} {loose : List Str} {XP : (Str → Option Value) → Heap → Prop} {YP : World → Heap → Prop} {d : DefRec} {K : Params → PySem.W.Frag} {sp : PySem.W.Frag → Sp} {x : Str}
    (hn : l.most = some n) (hn2 : n ≤ sizeLine) (hdf : d.params.defaults = []) (room : Room k callerA)
    (hY : ∀ (w : World) (h : Heap), YP w h → (K w.params).In h)
    (F : ∀ (w : World) (mg : Str → Option Value) (fa : Addr) (h : Heap), (K w.params).In h → h.Ns mainGlobals mg → mg d.name = some (.ref fa) →
      ∃ fd : FuncData, (∀ (s : Shared) (u : Value), BindsTo s fd ⟨[u], []⟩ [(x, u)]) ∧
        ∀ base : Heap, (K w.params).In base → base.Ns mainGlobals mg → FnG l.prog w (K w.params) mg base k fa fd [x] (sp (K w.params)))
    (want : ∀ (K : PySem.W.Frag) (H : Hp) (a : Addr) (ns : List Int), ns.length ≤ n → SqL K H a (ns.map V.int) → sp K [.ref a] H (fun v _ => v = .bl true) fun _ _ _ => False) :
    PySem.W.WalkO q loose XP YP l.row.toRowW d [] (fun f vs => PySem.call f vs) := by
  refine Att.attach_call hn hdf ?_
  intro w s₀ s₁ mg mb fa o pm cd doc a vs ns G Y ho hd hcd hmg obj hints short noGens
  have inK := hY w _ Y
  obtain ⟨fd, binds, FF⟩ := F w mg fa _ inK G.T.g hmg
  exact law_g inK G.T.g G.T.b G.T.builtins G.T.nolimit noGens obj hints (Nat.le_trans short hn2) room FF binds fun H hS => want _ H a ns short hS
end Z
/-! Z, part C: texts as lists of signs; one rule an operator, whatever the kinds; how readings step on. -/
namespace Z
open PySem PySem.Spec PyProof.Rows L2
theorem str_len (l : List Nat) : (⟨l.toArray⟩ : Str).length = l.length := by
  show l.toArray.size = l.length
  simp
theorem str_app (a b : List Nat) : (⟨a.toArray⟩ ++ ⟨b.toArray⟩ : Str) = ⟨(a ++ b).toArray⟩ := by
  show (⟨a.toArray ++ b.toArray⟩ : Str) = _
  simp
theorem str_eta (x : Str) : x = ⟨x.cps.toList.toArray⟩ := by
  obtain ⟨c⟩ := x
  simp
theorem T_inj {a b : List Nat} : T a = T b ↔ a = b := by
  constructor
  · intro h
    injection h with h
    injection h with h
    simpa using congrArg Array.toList h
  · rintro rfl
    rfl
def sz : Nat := 16777216
theorem sz_eq : (sizeLine : Nat) = sz := sizeLine_eq
/-- what stood stands -/
def Ex (H H' : Hp) : Prop := ∀ b o, H b = some o → H' b = some o
theorem Ex.refl (H : Hp) : Ex H H := fun _ _ h => h
theorem Ex.trans {H H1 H2 : Hp} (a : Ex H H1) (b : Ex H1 H2) : Ex H H2 := fun c o h => b c o (a c o h)
theorem Ex.at_ {H H' : Hp} {a : Addr} {o : HO} (e : Ex H H') (h : H a = some o) : H' a = some o := e a o h
theorem Ex.new {H : Hp} {p : Addr} {o : HO} (h : H p = none) : Ex H (upd H p o) := fun a u e => by
  rw [upd_ne (ne_of_none e h)]
  exact e
theorem Ex.back {H H' : Hp} (e : Ex H H') {p : Addr} (h : H' p = none) : H p = none := by
  cases q : H p with
  | none => rfl
  | some o => rw [e p o q] at h; cases h
/-- a thing that H does not know may change -/
theorem Ex.mut {H H' : Hp} {p : Addr} {o : HO} (e : Ex H H') (h : H p = none) : Ex H (upd H' p o) := fun a u ha => by
  rw [upd_ne (ne_of_none ha h)]
  exact e a u ha
theorem Ex.seqL {K : PySem.W.Frag} {H H' : Hp} {a : Addr} {xs : List V} (e : Ex H H') (h : SqL K H a xs) : SqL K H' a xs := by
  rcases h with (h | ⟨o, h⟩) | h
  · exact .inl (.inl (e _ _ h))
  · exact .inl (.inr ⟨o, e _ _ h⟩)
  · exact .inr h
theorem Ex.seqT {K : PySem.W.Frag} {H H' : Hp} {a : Addr} {xs : List V} (e : Ex H H') (h : SqT K H a xs) : SqT K H' a xs := by
  rcases h with (h | ⟨o, h⟩) | h
  · exact .inl (.inl (e _ _ h))
  · exact .inl (.inr ⟨o, e _ _ h⟩)
  · exact .inr h
theorem ne_new {H : Hp} {a b : Addr} {o : HO} (h : H b = none) (h' : H a = some o) : a ≠ b := ne_of_none h' h
/-- all but l stand -/
def But (l : Addr) (H H' : Hp) : Prop := ∀ b o, b ≠ l → H b = some o → H' b = some o
theorem But.at_ {l : Addr} {H H' : Hp} {a : Addr} {o : HO} (e : But l H H') (n : a ≠ l) (h : H a = some o) : H' a = some o := e a o n h
theorem But.upd {l : Addr} {H : Hp} {o : HO} : But l H (upd H l o) := fun b u n h => by rw [upd_ne n]; exact h
theorem But.trans {l : Addr} {H H1 H2 : Hp} (a : But l H H1) (b : But l H1 H2) : But l H H2 := fun c o n h => b c o n (a c o n h)
theorem But.ext {l : Addr} {H H1 H2 : Hp} (a : But l H H1) (b : Ex H1 H2) : But l H H2 := fun c o n h => b c o (a c o n h)
theorem Ex.but {l : Addr} {H H1 H2 : Hp} (a : Ex H H1) (b : But l H1 H2) : But l H H2 := fun c o n h => b c o n (a c o h)
theorem But.refl (l : Addr) (H : Hp) : But l H H := fun _ _ _ h => h
theorem But.ex {l : Addr} {H0 H H' : Hp} (b : But l H H') (e : Ex H0 H) (n : H0 l = none) : Ex H0 H' := fun c o h => b c o (ne_of_none h n) (e c o h)
section
variable {X : Cx}
/-! ### the rules -/
theorem z_str {x : Str} {l : List Nat} {j : Nat} {pos : Pos} (e : x = ⟨l.toArray⟩) : PE X (.Constant (.str x) j pos) (tC (T l)) := by
  subst e
  exact pe_str
def rAddS : R2 := fun x y H Q => ∃ a b : List Nat, x = T a ∧ y = T b ∧ a.length + b.length ≤ sz ∧ Q (T (a ++ b)) H
theorem op_addS : OpR X (binaryOp .Add) rAddS := by
  intro pins s σ H x y v u Q I rx ry h
  obtain ⟨a, b, rfl, rfl, h1, q⟩ := h
  refine op_add_str pins s σ H _ _ v u Q I rx ry ⟨_, _, rfl, rfl, ?_, ?_⟩
  · rw [str_len, str_len, sz_eq]; exact h1
  · rw [str_app]; exact q
theorem iop_addS : OpR X (inplaceOp .Add) rAddS := by
  intro pins s σ H x y v u Q I rx ry h
  obtain ⟨a, b, rfl, rfl, h1, q⟩ := h
  refine iop_add_str pins s σ H _ _ v u Q I rx ry ⟨_, _, rfl, rfl, ?_, ?_⟩
  · rw [str_len, str_len, sz_eq]; exact h1
  · rw [str_app]; exact q
def rAddZ (K : PySem.W.Frag) : R2 := fun x y H Q => rI0 (fun i j => .int (i + j)) x y H Q ∨ rAddS x y H Q ∨ rCat x y H Q ∨ rCatT K x y H Q
theorem z_add : OpR X (binaryOp .Add) (rAddZ X.K) := op_add.or (op_addS.or (op_cat.or op_catT))
/-- n times a text -/
def rep (l : List Nat) (n : Nat) : List Nat := (List.replicate n l).flatten
theorem rep_len (l : List Nat) (n : Nat) : (rep l n).length = l.length * n := by
  unfold rep
  induction n with
  | zero => simp
  | succ n ih => rw [List.replicate_succ, List.flatten_cons, List.length_append, ih, Nat.mul_succ, Nat.add_comm]
theorem fold_rep (a : Array Nat) (n : Nat) (acc : Array Nat) : (List.replicate n a).foldl (· ++ ·) acc = acc ++ ((List.replicate n a.toList).flatten).toArray := by
  induction n generalizing acc with
  | zero => simp
  | succ n ih =>
    rw [List.replicate_succ, List.foldl_cons, ih, List.replicate_succ, List.flatten_cons, Array.append_assoc]
    obtain ⟨l⟩ := a
    simp
def rMulS : R2 := fun x y H Q => ∃ (a : List Nat) (n : Int), x = T a ∧ y = .int n ∧ n ≤ 16777216 ∧ -16777216 ≤ n ∧ a.length * n.toNat ≤ sz ∧ Q (T (rep a n.toNat)) H
theorem op_mulS : OpR X (binaryOp .Mult) rMulS := by
  intro pins s σ H x y v u Q I rx ry h
  obtain ⟨a, n, rfl, rfl, h1, h2, h3, q⟩ := h
  obtain ⟨t, rfl⟩ := rx
  obtain ⟨t', rfl⟩ := ry
  have el : (⟨a.toArray⟩ : Str).length = a.length := str_len a
  by_cases hn : n < 1
  · have e0 : n.toNat = 0 := by omega
    rw [e0] at q
    exact PySem.P.mul_str_none hn (by omega) ⟨T [], H, I.tok _, ⟨_, rfl⟩, q⟩
  · have ha : a.length * n.toNat ≤ sizeLine := by rw [sz_eq]; exact h3
    refine PySem.P.mul_str ?_ ?_ ?_ ?_
    · rw [decide_eq_false (by omega), decide_eq_false (by omega)]; rfl
    · intro _ _ hh
      rw [el] at hh
      have h5 : (a.length : Int) * n ≤ 16777216 := by
        have e : ((a.length * n.toNat : Nat) : Int) = (a.length : Int) * n := by rw [Int.natCast_mul, Int.toNat_of_nonneg (by omega)]
        rw [← e]
        exact Int.ofNat_le.mpr h3
      have h6 : (a.length : Int) ≤ (2 ^ 63 - 1) / n := (Int.le_ediv_iff_mul_le (by omega)).mpr (by omega)
      omega
    · intro _ _
      rw [el]
      exact decide_eq_false (by omega)
    · rw [if_neg hn]
      by_cases c : (n == 1 || (⟨a.toArray⟩ : Str).length == 0) = true
      · rw [if_pos c]
        refine ⟨T a, H, I, ⟨t, rfl⟩, ?_⟩
        have e : rep a n.toNat = a := by
          rw [Bool.or_eq_true] at c
          rcases c with c | c
          · have e1 : n = 1 := by simpa using c
            subst e1
            unfold rep
            simp
          · have e1 : a = [] := by simpa [el] using c
            subst e1
            unfold rep
            simp
        rw [e] at q
        exact q
      · rw [if_neg c]
        refine ⟨?_, T (rep a n.toNat), H, I.tok _, ⟨s.toks, ?_⟩, q⟩
        · show ((List.replicate n.toNat a.toArray).foldl (· ++ ·) #[]).size ≤ sizeLine
          rw [fold_rep]
          have := rep_len a n.toNat
          unfold rep at this
          simp at this ⊢
          omega
        · rw [fold_rep]
          unfold rep
          simp
def rMulI : R2 := rI IntMulOk fun i j => .int (i * j)
theorem op_mulI : OpR X (binaryOp .Mult) rMulI := opI fun _ _ _ _ _ _ _ hc q => mul_int q hc
def rMulZ : R2 := fun x y H Q => rMulI x y H Q ∨ rMulS x y H Q ∨ rRep x y H Q
theorem z_mul : OpR X (binaryOp .Mult) rMulZ := op_mulI.or (op_mulS.or op_rep)
def CPowW (i j : Int) : Prop := 0 ≤ j ∧ (Builtin.Int.intBits i : Int) * j ≤ 2 ^ 27
def rPowZ : R2 := rI CPowW fun i j => .int (i ^ j.toNat)
theorem z_pow : OpR X (binaryOp .Pow) rPowZ := opI fun _ _ _ _ _ _ _ hc q => pow_int hc.1 hc.2 q
def rSubZ : R2 := rI0 fun i j => .int (i - j)
theorem z_sub : OpR X (binaryOp .Sub) rSubZ := op_sub
def rDivZ : R2 := rI CDiv fun i j => .int (i / j)
theorem z_fdiv : OpR X (binaryOp .FloorDiv) rDivZ := op_fdiv
def rModZ : R2 := rI (fun _ j => 0 < j) fun i j => .int (i % j)
theorem z_mod : OpR X (binaryOp .Mod) rModZ := op_mod
def rLtZ : R2 := fun x y H Q => rI0 (fun i j => .bl (decide (i < j))) x y H Q
theorem z_lt : OpR X (compareOp .Lt) rLtZ := op_lt
def rLeZ : R2 := fun x y H Q => rI0 (fun i j => .bl (decide (i ≤ j))) x y H Q
theorem z_le : OpR X (compareOp .LtE) rLeZ := op_le
def rGtZ : R2 := fun x y H Q => rI0 (fun i j => .bl (decide (j < i))) x y H Q
theorem z_gt : OpR X (compareOp .Gt) rGtZ := op_gt
def rGeZ : R2 := fun x y H Q => rI0 (fun i j => .bl (decide (j ≤ i))) x y H Q
theorem z_ge : OpR X (compareOp .GtE) rGeZ := op_ge
def rEqZ (K : PySem.W.Frag) : R2 := fun x y H Q => rEq x y H Q ∨ rEqD K x y H Q
theorem z_eq (hu : X.A.units + 64 < cLine) : OpR X (compareOp .Eq) (rEqZ X.K) := op_eq.or (op_eqD hu)
def rNeZ (K : PySem.W.Frag) : R2 := fun x y H Q => rNe x y H Q ∨ rNeD K x y H Q
theorem z_ne (hu : X.A.units + 64 < cLine) : OpR X (compareOp .NotEq) (rNeZ X.K) := op_ne.or (op_neD hu)
def rInS : R2 := fun x y H Q => ∃ (c : Nat) (z : List Nat), x = T [c] ∧ y = T z ∧ Q (.bl (decide (c ∈ z))) H
theorem op_inS : OpR X (compareOp .In) rInS := by
  intro pins s σ H x y v u Q I rx ry h
  obtain ⟨c, z, rfl, rfl, q⟩ := h
  exact op_in_sign pins s σ H _ _ v u Q I rx ry ⟨c, ⟨z.toArray⟩, rfl, rfl, by simpa using q⟩
def rNiS : R2 := fun x y H Q => ∃ (c : Nat) (z : List Nat), x = T [c] ∧ y = T z ∧ Q (.bl (!decide (c ∈ z))) H
theorem op_niS : OpR X (compareOp .NotIn) rNiS := by
  intro pins s σ H x y v u Q I rx ry h
  obtain ⟨c, z, rfl, rfl, q⟩ := h
  exact op_notIn_sign pins s σ H _ _ v u Q I rx ry ⟨c, ⟨z.toArray⟩, rfl, rfl, by simpa using q⟩
def rInZ (K : PySem.W.Frag) : R2 := fun x y H Q => rInS x y H Q ∨ rIn K false x y H Q
theorem z_in : OpR X (compareOp .In) (rInZ X.K) := op_inS.or op_in_seq
def rNiZ (K : PySem.W.Frag) : R2 := fun x y H Q => rNiS x y H Q ∨ rIn K true x y H Q
theorem z_ni : OpR X (compareOp .NotIn) (rNiZ X.K) := op_niS.or op_notIn_seq
/-- s[i] -/
def rIxT' : R2 := fun x y H Q => ∃ (z : List Nat) (i : Int) (c : Nat), x = T z ∧ y = .int i ∧ z.length ≤ sz ∧ atI z i = some c ∧ Q (T [c]) H
theorem ix_T : IxR X rIxT' := by
  intro value slice pins s σ H x y v u Q I rx ry h hs
  obtain ⟨z, i, c, rfl, rfl, h1, h2, q⟩ := h
  refine ix_str value slice pins s σ H _ _ v u Q I rx ry ?_ hs
  exact ⟨⟨z.toArray⟩, i, c, rfl, rfl, by rw [str_len, sz_eq]; exact h1, by simpa using h2, q⟩
def rIxZ (K : PySem.W.Frag) : R2 := fun x y H Q => rIxT' x y H Q ∨ rIxL K x y H Q ∨ L2.rIxT K x y H Q
theorem z_ix : IxR X (rIxZ X.K) := ix_T.or (ix_list.or ix_tup)
/-- s[lo:hi] -/
def cut (l : List Nat) (lo hi : Option Int) : List Nat := (l.drop (HT.sIx l.length 0 lo)).take (HT.sIx l.length l.length hi - HT.sIx l.length 0 lo)
def rSlZ (K : PySem.W.Frag) : V → Option Int → Option Int → Hp → VK → Prop := fun x lo hi H Q =>
  (∃ z : List Nat, x = T z ∧ z.length ≤ sz ∧ Q (T (cut z lo hi)) H) ∨ rSlL K x lo hi H Q ∨ rSlT K x lo hi H Q
theorem sl_T : SlR X (fun x lo hi H Q => ∃ z : List Nat, x = T z ∧ z.length ≤ sz ∧ Q (T (cut z lo hi)) H) := by
  intro pins s σ H x v vl vu lo hi sl Q I rx hs pl pu h
  obtain ⟨z, rfl, h1, q⟩ := h
  refine sl_str pins s σ H _ v vl vu lo hi sl Q I rx hs pl pu ⟨⟨z.toArray⟩, rfl, by rw [str_len, sz_eq]; exact h1, ?_⟩
  unfold cutS
  rw [str_len]
  exact q
theorem z_sl : SlR X (rSlZ X.K) := sl_T.or (sl_list.or sl_tup)
/-- len -/
def rLenZ (K : PySem.W.Frag) : List V → Hp → VK → Prop := fun xs H Q => ∃ x n, xs = [x] ∧ LenV K x H n ∧ Q (.int n) H
theorem z_len : CallR X (.builtin "len") (rLenZ X.K) := call_len
/-- sep.join(list) -/
def joinT (a : List Nat) : List (List Nat) → List Nat
  | [] => []
  | [x] => x
  | x :: y :: r => x ++ a ++ joinT a (y :: r)
end
end Z
/-! Z, part D: a reading goes on by one step. -/
namespace Z
open PySem PySem.Spec PyProof.Rows L2
section
variable {σ σ' : L2.St} {H : Hp} {D : Ends} {t u ts : TS} {te ta tb tc to : TE} {tt tu : TT} {tr : TA} {Q : VK} {K : PySem.W.Frag} {x y v : V} {i : Nat} {a b p : Addr}
/-! ### statements -/
theorem norm {t : Ends → L2.St → Hp → Prop} (e : List.set σ i (some v) = σ') (h : t D σ' H) : t D (List.set σ i (some v)) H := e ▸ h
theorem seq_asg (h : te σ H fun x H1 => u D (List.set σ i (some x)) H1) : tSeq (tAsg te (gName i)) u D σ H := h
theorem asg_ (h : te σ H fun x H1 => D.nx (List.set σ i (some x)) H1) : tAsg te (gName i) D σ H := h
theorem seq_drop (h : te σ H fun _ H1 => u D σ H1) : tSeq (tDrop te) u D σ H := h
theorem drop_ (h : te σ H fun _ H1 => D.nx σ H1) : tDrop te D σ H := h
theorem ret_ (h : te σ H D.rt) : tRet te D σ H := h
theorem retN_ (h : D.rt .non H) : tRetN D σ H := h
theorem next_ (h : D.nx σ H) : tNext D σ H := h
theorem seq_ (h : t { D with nx := u D } σ H) : tSeq t u D σ H := h
def zIf (t u : TS) (D : Ends) (σ : L2.St) (b : Bool) (H : Hp) : Prop := if b = true then t D σ H else u D σ H
theorem seq_if (h : tt σ H (zIf t ts { D with nx := u D } σ)) : tSeq (tIfS tt t ts) u D σ H := h
theorem if_ (h : tt σ H (zIf t ts D σ)) : tIfS tt t ts D σ H := h
theorem zif_d {q : Prop} [Decidable q] (h1 : q → t D σ H) (h2 : ¬ q → u D σ H) : zIf t u D σ (decide q) H := by
  unfold zIf
  by_cases h : q
  · rw [decide_eq_true h, if_pos rfl]; exact h1 h
  · rw [decide_eq_false h, if_neg Bool.false_ne_true]; exact h2 h
theorem zif_n {q : Prop} [Decidable q] (h1 : ¬ q → t D σ H) (h2 : q → u D σ H) : zIf t u D σ (!decide q) H := by
  unfold zIf
  by_cases h : q
  · rw [decide_eq_true h]; exact h2 h
  · rw [decide_eq_false h]; exact h1 h
theorem zif_b {k : Bool} (h1 : k = true → t D σ H) (h2 : k = false → u D σ H) : zIf t u D σ k H := by
  unfold zIf
  cases k with
  | true => exact h1 rfl
  | false => exact h2 rfl
theorem zif_dt {q : Prop} [Decidable q] (hq : q) (h : t D σ H) : zIf t u D σ (decide q) H := zif_d (fun _ => h) fun n => absurd hq n
theorem zif_df {q : Prop} [Decidable q] (hq : ¬ q) (h : u D σ H) : zIf t u D σ (decide q) H := zif_d (fun n => absurd n hq) fun _ => h
theorem zif_nT (h : u D σ H) : zIf t u D σ (!true) H := h
theorem zif_nF (h : t D σ H) : zIf t u D σ (!false) H := h
theorem zif_nt {q : Prop} [Decidable q] (hq : ¬ q) (h : t D σ H) : zIf t u D σ (!decide q) H := zif_n (fun _ => h) fun n => absurd n hq
theorem zif_nf {q : Prop} [Decidable q] (hq : q) (h : u D σ H) : zIf t u D σ (!decide q) H := zif_n (fun n => absurd hq n) fun _ => h
theorem zif_t (h : t D σ H) : zIf t u D σ true H := h
theorem zif_f (h : u D σ H) : zIf t u D σ false H := h
/-! ### expressions -/
theorem var_ (e : σ[i]? = some (some v)) (h : Q v H) : tVar i σ H Q := ⟨v, e, h⟩
theorem c_ (h : Q v H) : tC v σ H Q := h
theorem op_ {r : R2} (h : ta σ H fun x H1 => tb σ H1 fun y H2 => r x y H2 Q) : tOp r ta tb σ H Q := h
theorem un_ {r : V → Hp → VK → Prop} (h : ta σ H fun x H1 => r x H1 Q) : tUn r ta σ H Q := h
theorem nil_ {Q : List V → Hp → Prop} (h : Q [] H) : tNil σ H Q := h
theorem cons_ {Q : List V → Hp → Prop} (h : ta σ H fun x H1 => tr σ H1 fun xs H2 => Q (x :: xs) H2) : tCons ta tr σ H Q := h
def zNew (o : HO) (H : Hp) (Q : VK) : Prop := ∀ p, H p = none → Q (.ref p) (upd H p o)
theorem new_ {o : HO} (h : ∀ p H', H p = none → Ex H H' → H' p = some o → Q (.ref p) H') : zNew o H Q := fun p hp => h p _ hp (Ex.new hp) upd_same
def zTup (xs : List V) (H : Hp) (Q : VK) : Prop := xs.length ≤ sizeLine ∧ zNew (.tup xs) H Q
def zLst (xs : List V) (H : Hp) (Q : VK) : Prop := xs.length ≤ sizeLine ∧ zNew (.lst xs) H Q
theorem tup_ (h : tr σ H fun xs H1 => zTup xs H1 Q) : tTup tr σ H Q := h
theorem lst_ (h : tr σ H fun xs H1 => zLst xs H1 Q) : tLst tr σ H Q := h
theorem ztup_ {xs : List V} (l : xs.length ≤ 16777216) (h : ∀ p H', H p = none → Ex H H' → H' p = some (.tup xs) → Q (.ref p) H') : zTup xs H Q := ⟨by rw [sz_eq]; exact l, new_ h⟩
theorem zlst_ {xs : List V} (l : xs.length ≤ 16777216) (h : ∀ p H', H p = none → Ex H H' → H' p = some (.lst xs) → Q (.ref p) H') : zLst xs H Q := ⟨by rw [sz_eq]; exact l, new_ h⟩
theorem cb_ {r : List V → Hp → VK → Prop} (h : tr σ H fun vs H1 => r vs H1 Q) : tCB r tr σ H Q := h
theorem c1_ {sp : Sp} {E : L2.St → XK} (h : tr σ H fun vs H1 => sp vs H1 Q (E σ)) : tC1 sp [] E tr σ H Q := by
  unfold tC1
  simpa using h
theorem c1d_ {sp : Sp} {dv : V} {dvs : List V} {E : L2.St → XK} (h : tr σ H fun vs H1 => sp (vs ++ dv :: dvs) H1 Q (E σ)) : tC1 sp (dv :: dvs) E tr σ H Q := h
def zSl (r : V → Option Int → Option Int → Hp → VK → Prop) (x : V) (l u : Option Int) (H : Hp) (Q : VK) : Prop := r x l u H Q
theorem sl_ {r : V → Option Int → Option Int → Hp → VK → Prop} {tl th : TO} (h : te σ H fun x H1 => tl σ H1 fun l H2 => th σ H2 fun u H3 => r x l u H3 Q) : tSl r te tl th σ H Q := h
theorem nopart_ {Q : Option Int → Hp → Prop} (h : Q none H) : tNoPart σ H Q := h
def zPart (Q : Option Int → Hp → Prop) (x : V) (H : Hp) : Prop := ∃ i, x = .int i ∧ Q (some i) H
theorem part_ {Q : Option Int → Hp → Prop} (h : te σ H (zPart Q)) : tPart te σ H Q := h
theorem zpart_ {Q : Option Int → Hp → Prop} {n : Int} (h : Q (some n) H) : zPart Q (.int n) H := ⟨n, rfl, h⟩
/-! ### tests -/
def zB (Q : Bool → Hp → Prop) (x : V) (H : Hp) : Prop := ∃ k, x = .bl k ∧ Q k H
theorem test_ {Q : Bool → Hp → Prop} (h : te σ H (zB Q)) : tTest te σ H Q := h
theorem tb_ {Q : Bool → Hp → Prop} (h : te σ H (zB Q)) : tB te σ H Q := h
theorem zb_ {Q : Bool → Hp → Prop} {k : Bool} (h : Q k H) : zB Q (.bl k) H := ⟨k, rfl, h⟩
def zAnd (tu : TT) (σ : L2.St) (Q : Bool → Hp → Prop) (c : Bool) (H : Hp) : Prop := if c = true then tu σ H Q else Q false H
def zOr (tu : TT) (σ : L2.St) (Q : Bool → Hp → Prop) (c : Bool) (H : Hp) : Prop := if c = true then Q true H else tu σ H Q
theorem and_ {Q : Bool → Hp → Prop} (h : tt σ H (zAnd tu σ Q)) : tAnd tt tu σ H Q := h
theorem or_ {Q : Bool → Hp → Prop} (h : tt σ H (zOr tu σ Q)) : tOr tt tu σ H Q := h
theorem nott_ {Q : Bool → Hp → Prop} (h : Q false H) : (fun c H1 => Q (!c) H1) true H := h
theorem not_ {Q : Bool → Hp → Prop} (h : tt σ H fun c H1 => Q (!c) H1) : tNot tt σ H Q := h
theorem zand_d {q : Prop} [Decidable q] {Q : Bool → Hp → Prop} (h1 : q → tu σ H Q) (h2 : ¬ q → Q false H) : zAnd tu σ Q (decide q) H := by
  unfold zAnd
  by_cases h : q
  · rw [decide_eq_true h, if_pos rfl]; exact h1 h
  · rw [decide_eq_false h, if_neg Bool.false_ne_true]; exact h2 h
theorem zor_d {q : Prop} [Decidable q] {Q : Bool → Hp → Prop} (h1 : q → Q true H) (h2 : ¬ q → tu σ H Q) : zOr tu σ Q (decide q) H := by
  unfold zOr
  by_cases h : q
  · rw [decide_eq_true h, if_pos rfl]; exact h1 h
  · rw [decide_eq_false h, if_neg Bool.false_ne_true]; exact h2 h
theorem zand_n {q : Prop} [Decidable q] {Q : Bool → Hp → Prop} (h1 : ¬ q → tu σ H Q) (h2 : q → Q false H) : zAnd tu σ Q (!decide q) H := by
  unfold zAnd
  by_cases h : q
  · rw [decide_eq_true h]; exact h2 h
  · rw [decide_eq_false h]; exact h1 h
theorem zor_n {q : Prop} [Decidable q] {Q : Bool → Hp → Prop} (h1 : ¬ q → Q true H) (h2 : q → tu σ H Q) : zOr tu σ Q (!decide q) H := by
  unfold zOr
  by_cases h : q
  · rw [decide_eq_true h]; exact h2 h
  · rw [decide_eq_false h]; exact h1 h
theorem zand_b {k : Bool} {Q : Bool → Hp → Prop} (h1 : k = true → tu σ H Q) (h2 : k = false → Q false H) : zAnd tu σ Q k H := by
  unfold zAnd
  cases k with
  | true => exact h1 rfl
  | false => exact h2 rfl
theorem zor_b {k : Bool} {Q : Bool → Hp → Prop} (h1 : k = true → Q true H) (h2 : k = false → tu σ H Q) : zOr tu σ Q k H := by
  unfold zOr
  cases k with
  | true => exact h1 rfl
  | false => exact h2 rfl
def zIfE (ta tb : TE) (σ : L2.St) (Q : VK) (c : Bool) (H : Hp) : Prop := if c = true then ta σ H Q else tb σ H Q
theorem ifE_ (h : tt σ H (zIfE ta tb σ Q)) : tIf tt ta tb σ H Q := h
theorem zife_d {q : Prop} [Decidable q] (h1 : q → ta σ H Q) (h2 : ¬ q → tb σ H Q) : zIfE ta tb σ Q (decide q) H := by
  unfold zIfE
  by_cases h : q
  · rw [decide_eq_true h, if_pos rfl]; exact h1 h
  · rw [decide_eq_false h, if_neg Bool.false_ne_true]; exact h2 h
theorem zife_n {q : Prop} [Decidable q] (h1 : ¬ q → ta σ H Q) (h2 : q → tb σ H Q) : zIfE ta tb σ Q (!decide q) H := by
  unfold zIfE
  by_cases h : q
  · rw [decide_eq_true h]; exact h2 h
  · rw [decide_eq_false h]; exact h1 h
theorem zife_b {k : Bool} (h1 : k = true → ta σ H Q) (h2 : k = false → tb σ H Q) : zIfE ta tb σ Q k H := by
  unfold zIfE
  cases k with
  | true => exact h1 rfl
  | false => exact h2 rfl
/-- a and b, a or b of truths, as a value -/
def zAndV (tb : TE) (σ : L2.St) (Q : VK) (x : V) (H : Hp) : Prop := ∃ c, x = .bl c ∧ if c = true then tb σ H Q else Q (.bl false) H
def zOrV (tb : TE) (σ : L2.St) (Q : VK) (x : V) (H : Hp) : Prop := ∃ c, x = .bl c ∧ if c = true then Q (.bl true) H else tb σ H Q
theorem andV_ (h : ta σ H (zAndV tb σ Q)) : tAndV ta tb σ H Q := h
theorem orV_ (h : ta σ H (zOrV tb σ Q)) : tOrV ta tb σ H Q := h
theorem zandv_d {q : Prop} [Decidable q] (h1 : q → tb σ H Q) (h2 : ¬ q → Q (.bl false) H) : zAndV tb σ Q (.bl (decide q)) H := by
  refine ⟨_, rfl, ?_⟩
  by_cases h : q
  · rw [decide_eq_true h, if_pos rfl]; exact h1 h
  · rw [decide_eq_false h, if_neg Bool.false_ne_true]; exact h2 h
theorem zorv_d {q : Prop} [Decidable q] (h1 : q → Q (.bl true) H) (h2 : ¬ q → tb σ H Q) : zOrV tb σ Q (.bl (decide q)) H := by
  refine ⟨_, rfl, ?_⟩
  by_cases h : q
  · rw [decide_eq_true h, if_pos rfl]; exact h1 h
  · rw [decide_eq_false h, if_neg Bool.false_ne_true]; exact h2 h
theorem zandv_b {k : Bool} (h1 : k = true → tb σ H Q) (h2 : k = false → Q (.bl false) H) : zAndV tb σ Q (.bl k) H := by
  refine ⟨_, rfl, ?_⟩
  cases k with
  | true => exact h1 rfl
  | false => exact h2 rfl
theorem zorv_b {k : Bool} (h1 : k = true → Q (.bl true) H) (h2 : k = false → tb σ H Q) : zOrV tb σ Q (.bl k) H := by
  refine ⟨_, rfl, ?_⟩
  cases k with
  | true => exact h1 rfl
  | false => exact h2 rfl
theorem zandv_t (h : tb σ H Q) : zAndV tb σ Q (.bl true) H := ⟨_, rfl, h⟩
theorem zandv_f (h : Q (.bl false) H) : zAndV tb σ Q (.bl false) H := ⟨_, rfl, h⟩
theorem zorv_t (h : Q (.bl true) H) : zOrV tb σ Q (.bl true) H := ⟨_, rfl, h⟩
theorem zorv_f (h : tb σ H Q) : zOrV tb σ Q (.bl false) H := ⟨_, rfl, h⟩
theorem zand_t {Q : Bool → Hp → Prop} (h : tu σ H Q) : zAnd tu σ Q true H := h
theorem zand_f {Q : Bool → Hp → Prop} (h : Q false H) : zAnd tu σ Q false H := h
theorem zor_t {Q : Bool → Hp → Prop} (h : Q true H) : zOr tu σ Q true H := h
theorem zor_f {Q : Bool → Hp → Prop} (h : tu σ H Q) : zOr tu σ Q false H := h
def zNotV (Q : VK) (x : V) (H : Hp) : Prop := ∃ c, x = .bl c ∧ Q (.bl (!c)) H
theorem notV_ (h : ta σ H (zNotV Q)) : tNotV ta σ H Q := h
theorem znotv_ {k : Bool} (h : Q (.bl (!k)) H) : zNotV Q (.bl k) H := ⟨k, rfl, h⟩
/-! ### operators on values -/
theorem addI {n m : Int} (h : Q (.int (n + m)) H) : rAddZ K (.int n) (.int m) H Q := .inl ⟨n, m, rfl, rfl, h⟩
theorem addS {l m : List Nat} (e : l.length + m.length ≤ 16777216) (h : Q (T (l ++ m)) H) : rAddZ K (T l) (T m) H Q := .inr (.inl ⟨l, m, rfl, rfl, e, h⟩)
theorem addL {xs ys : List V} (h1 : H a = some (.lst xs)) (h2 : H b = some (.lst ys)) (e : xs.length + ys.length ≤ 16777216)
    (h : ∀ p H', H p = none → Ex H H' → H' p = some (.lst (xs ++ ys)) → Q (.ref p) H') : rAddZ K (.ref a) (.ref b) H Q :=
  .inr (.inr (.inl ⟨a, b, xs, ys, rfl, rfl, h1, h2, by rw [sz_eq]; exact e, new_ h⟩))
theorem subI {n m : Int} (h : Q (.int (n - m)) H) : rSubZ (.int n) (.int m) H Q := ⟨n, m, rfl, rfl, h⟩
theorem mul_ok1 {n m : Int} (h1 : -18446744073709551616 < n) (h2 : n < 18446744073709551616) : IntMulOk n m := (CMul.ok (.inl ⟨h1, h2⟩))
theorem mul_ok2 {n m : Int} (h1 : -18446744073709551616 < m) (h2 : m < 18446744073709551616) : IntMulOk n m := (CMul.ok (.inr ⟨h1, h2⟩))
theorem mulI {n m : Int} (e : IntMulOk n m) (h : Q (.int (n * m)) H) : rMulZ (.int n) (.int m) H Q := .inl ⟨n, m, rfl, rfl, e, h⟩
theorem mulS {l : List Nat} {n : Int} (e1 : n ≤ 16777216) (e2 : -16777216 ≤ n) (e3 : l.length * n.toNat ≤ 16777216) (h : Q (T (rep l n.toNat)) H) : rMulZ (T l) (.int n) H Q :=
  .inr (.inl ⟨l, n, rfl, rfl, e1, e2, e3, h⟩)
theorem divI {n m : Int} (e1 : 0 < m) (e2 : m < 1073741824) (h : Q (.int (n / m)) H) : rDivZ (.int n) (.int m) H Q := ⟨n, m, rfl, rfl, ⟨e1, e2⟩, h⟩
theorem modI {n m : Int} (e1 : 0 < m) (h : Q (.int (n % m)) H) : rModZ (.int n) (.int m) H Q := ⟨n, m, rfl, rfl, e1, h⟩
theorem powI {n m : Int} (e : CPowW n m) (h : Q (.int (n ^ m.toNat)) H) : rPowZ (.int n) (.int m) H Q := ⟨n, m, rfl, rfl, e, h⟩
theorem pow_ok {n m : Int} (h : (decide (0 ≤ m) && decide ((Builtin.Int.intBits n : Int) * m ≤ 2 ^ 27)) = true) : CPowW n m := by
  simp only [Bool.and_eq_true, decide_eq_true_eq] at h
  exact h
theorem negI {n : Int} (h : Q (.int (-n)) H) : rU (fun i => .int (-i)) (.int n) H Q := ⟨n, rfl, h⟩
theorem ltI {n m : Int} (h : Q (.bl (decide (n < m))) H) : rLtZ (.int n) (.int m) H Q := ⟨n, m, rfl, rfl, h⟩
theorem leI {n m : Int} (h : Q (.bl (decide (n ≤ m))) H) : rLeZ (.int n) (.int m) H Q := ⟨n, m, rfl, rfl, h⟩
theorem gtI {n m : Int} (h : Q (.bl (decide (m < n))) H) : rGtZ (.int n) (.int m) H Q := ⟨n, m, rfl, rfl, h⟩
theorem geI {n m : Int} (h : Q (.bl (decide (m ≤ n))) H) : rGeZ (.int n) (.int m) H Q := ⟨n, m, rfl, rfl, h⟩
theorem dec_i {n m : Int} : decide (V.int n = V.int m) = decide (n = m) := by
  by_cases h : n = m
  · subst h; simp
  · rw [decide_eq_false h, decide_eq_false (fun q => h (V.int.inj q))]
theorem dec_s {l m : List Nat} : decide (T l = T m) = decide (l = m) := by
  by_cases h : l = m
  · subst h; simp
  · rw [decide_eq_false h, decide_eq_false (fun q => h (T_inj.mp q))]
theorem eqII {n : Int} (h : Q (.bl true) H) : rEqZ K (.int n) (.int n) H Q := .inl ⟨rfl, by rw [decide_eq_true rfl]; exact h⟩
theorem eqSS {l : List Nat} (h : Q (.bl true) H) : rEqZ K (T l) (T l) H Q := .inl ⟨rfl, by rw [decide_eq_true rfl]; exact h⟩
theorem neSS {l : List Nat} (h : Q (.bl false) H) : rNeZ K (T l) (T l) H Q := .inl ⟨rfl, by rw [decide_eq_true rfl]; exact h⟩
theorem eqI {n m : Int} (h : Q (.bl (decide (n = m))) H) : rEqZ K (.int n) (.int m) H Q := .inl ⟨rfl, dec_i ▸ h⟩
theorem eqS {l m : List Nat} (h : Q (.bl (decide (l = m))) H) : rEqZ K (T l) (T m) H Q := .inl ⟨rfl, dec_s ▸ h⟩
theorem neI {n m : Int} (h : Q (.bl (!decide (n = m))) H) : rNeZ K (.int n) (.int m) H Q := .inl ⟨rfl, dec_i ▸ h⟩
theorem neS {l m : List Nat} (h : Q (.bl (!decide (l = m))) H) : rNeZ K (T l) (T m) H Q := .inl ⟨rfl, dec_s ▸ h⟩
theorem inS {c : Nat} {z : List Nat} (h : Q (.bl (decide (c ∈ z))) H) : rInZ K (T [c]) (T z) H Q := .inl ⟨c, z, rfl, rfl, h⟩
theorem niS {c : Nat} {z : List Nat} (h : Q (.bl (!decide (c ∈ z))) H) : rNiZ K (T [c]) (T z) H Q := .inl ⟨c, z, rfl, rfl, h⟩
theorem ixS {z : List Nat} {n : Int} {c : Nat} (e1 : z.length ≤ 16777216) (e2 : atI z n = some c) (h : Q (T [c]) H) : rIxZ K (T z) (.int n) H Q := .inl ⟨z, n, c, rfl, rfl, e1, e2, h⟩
theorem ixL {xs : List V} {n : Int} {v : V} (e : H a = some (.lst xs)) (e2 : atI xs n = some v) (h : Q v H) : rIxZ K (.ref a) (.int n) H Q :=
  .inr (.inl ⟨a, xs, n, v, rfl, rfl, SqL.of e, e2, h⟩)
theorem ixU {xs : List V} {n : Int} {v : V} (e : H a = some (.tup xs)) (e2 : atI xs n = some v) (h : Q v H) : rIxZ K (.ref a) (.int n) H Q :=
  .inr (.inr ⟨a, xs, n, v, rfl, rfl, SqT.of e, e2, h⟩)
theorem ixSq {xs : List V} {n : Int} {v : V} (e : SqL K H a xs) (e2 : atI xs n = some v) (h : Q v H) : rIxZ K (.ref a) (.int n) H Q :=
  .inr (.inl ⟨a, xs, n, v, rfl, rfl, e, e2, h⟩)
theorem slS {z : List Nat} {lo hi : Option Int} (e : z.length ≤ 16777216) (h : Q (T (cut z lo hi)) H) : rSlZ K (T z) lo hi H Q := .inl ⟨z, rfl, e, h⟩
theorem slL {xs : List V} {lo hi : Option Int} (e : H a = some (.lst xs)) (h : ∀ p H', H p = none → Ex H H' → H' p = some (.lst (cutV xs lo hi)) → Q (.ref p) H') : rSlZ K (.ref a) lo hi H Q :=
  .inr (.inl ⟨a, xs, rfl, SqL.of e, new_ h⟩)
theorem lenS {l : List Nat} (e : l.length ≤ 16777216) (h : Q (.int (l.length : Nat)) H) : rLenZ K [T l] H Q :=
  ⟨_, l.length, rfl, ⟨by rw [str_len, sz_eq]; exact e, (str_len l).symm⟩, h⟩
theorem lenL {xs : List V} (e : H a = some (.lst xs)) (h : Q (.int (xs.length : Nat)) H) : rLenZ K [.ref a] H Q := ⟨_, xs.length, rfl, .inl ⟨xs, SqL.of e, rfl⟩, h⟩
theorem lenU {xs : List V} (e : H a = some (.tup xs)) (h : Q (.int (xs.length : Nat)) H) : rLenZ K [.ref a] H Q := ⟨_, xs.length, rfl, .inr ⟨xs, SqT.of e, rfl⟩, h⟩
theorem lenSq {xs : List V} (e : SqL K H a xs) (h : Q (.int (xs.length : Nat)) H) : rLenZ K [.ref a] H Q := ⟨_, xs.length, rfl, .inl ⟨xs, e, rfl⟩, h⟩
end
end Z
/-! Z, part E: more rules: op=, repr, str, int, join, count, enumerate of texts. -/
namespace Z
open PySem PySem.Spec PyProof.Rows L2
section
variable {X : Cx}
/-! ### op= -/
def pAddZ : TIp := fun x y H Q => rI0 (fun i j => .int (i + j)) x y H Q ∨ rAddS x y H Q
theorem z_iadd : PIp X .Add pAddZ := by
  intro pins s σ H x y v u Q I rx ry h
  rcases h with h | h
  · exact iop_add pins s σ H x y v u Q I rx ry h
  · exact iop_addS pins s σ H x y v u Q I rx ry h
def pSubZ : TIp := rI0 (fun i j => .int (i - j))
theorem z_isub : PIp X .Sub pSubZ := fun pins s σ H x y v u Q I rx ry h => iop_sub pins s σ H x y v u Q I rx ry h
def pMulZ : TIp := rI CMul (fun i j => .int (i * j))
theorem z_imul : PIp X .Mult pMulZ := fun pins s σ H x y v u Q I rx ry h => iop_mul pins s σ H x y v u Q I rx ry h
def pDivZ : TIp := rI CDiv (fun i j => .int (i / j))
theorem z_ifdiv : PIp X .FloorDiv pDivZ := fun pins s σ H x y v u Q I rx ry h => iop_fdiv pins s σ H x y v u Q I rx ry h
/-! ### xs[i] op= -/
def gList (K : PySem.W.Frag) : V → V → Hp → VK → Prop := fun o i H Q => ∃ (p : Addr) (xs : List V) (k : Int) (v : V), o = .ref p ∧ i = .int k ∧ SqL K H p xs ∧ atI xs k = some v ∧ Q v H
theorem get_list : PGet X (gList X.K) := by
  intro pins s σ H o i ov iv Q I ro ri h
  obtain ⟨p, xs, k, v, rfl, rfl, hq, he, q⟩ := h
  cases ro
  obtain ⟨t, rfl⟩ := ri
  obtain ⟨its, r, pl, hz⟩ := I.list hq
  obtain ⟨j, h1, h2, h3, h4, h5⟩ := atI_get he
  obtain ⟨w, ew, rw'⟩ := r.get h2
  have hl := r.length
  have hn := line63
  have fin : EP X pins σ Q w s := ⟨v, H, I, rw', q⟩
  by_cases h0 : 0 ≤ k
  · have hj : k.toNat = j := Option.some.inj ((seqIndex_of h0 h5).symm.trans h1)
    exact wpAny_getItem_list pl.isList h0 (by omega) (by rw [hj]; simpa using ew) fin
  · have hj : (k + (its.toArray.size : Int)).toNat = j := by
      rw [List.size_toArray, ← hl]
      exact Option.some.inj ((seqIndex_neg (by omega) h4).symm.trans h1)
    exact wpAny_getItem_list_neg pl.isList (by omega) (by rw [List.size_toArray] <;> omega) (by omega) (by rw [hj]; simpa using ew) fin
/-! ### repr -/
abbrev Dt (l : List Nat) : PyData := .str ⟨l.toArray⟩
/-- a text of at most n signs is told -/
inductive Rp : PyData → Nat → Nat → Prop
  | non : Rp .none 4 1
  | bl (b : Bool) : Rp (.bool b) 5 1
  | int {i : Int} (h1 : -18446744073709551616 < i) (h2 : i < 18446744073709551616) : Rp (.int i) 25 1
  | str {l : List Nat} (h : ∀ c ∈ l, c < 1000) : Rp (Dt l) (10 * l.length + 2) 1
  | lst {ds : List PyData} {n k : Nat} (h : ∀ d ∈ ds, Rp d n k) : Rp (.list ds) (ds.length * (n + 2) + 4) (k + 1)
  | tup {ds : List PyData} {n k : Nat} (h : ∀ d ∈ ds, Rp d n k) : Rp (.tuple ds) (ds.length * (n + 2) + 4) (k + 1)
  | more {d : PyData} {n m k j : Nat} (h : Rp d n k) (l : n ≤ m) (g : k ≤ j) : Rp d m j
theorem shownAll_map : ∀ ds : List PyData, PyData.shownAll ds = ds.map PyData.shown
  | [] => by simp [PyData.shownAll]
  | d :: ds => by simp [PyData.shownAll, shownAll_map ds]
theorem showableAll_of : ∀ {ds : List PyData}, (∀ d ∈ ds, d.showable = true) → PyData.showableAll ds = true
  | [], _ => by simp [PyData.showableAll]
  | d :: ds, h => by
    simp only [PyData.showableAll, h d List.mem_cons_self, Bool.true_and]
    exact showableAll_of fun e he => h e (List.mem_cons_of_mem _ he)
theorem hasDictAll_of : ∀ {ds : List PyData}, (∀ d ∈ ds, d.hasDict = false) → PyData.hasDictAll ds = false
  | [], _ => by simp [PyData.hasDictAll]
  | d :: ds, h => by
    simp only [PyData.hasDictAll, h d List.mem_cons_self, Bool.false_or]
    exact hasDictAll_of fun e he => h e (List.mem_cons_of_mem _ he)
theorem depthAll_of {k : Nat} : ∀ {ds : List PyData}, (∀ d ∈ ds, d.depth ≤ k) → PyData.depthAll ds ≤ k
  | [], _ => by simp [PyData.depthAll]
  | d :: ds, h => by
    simp only [PyData.depthAll]
    exact Nat.max_le.mpr ⟨h d List.mem_cons_self, depthAll_of fun e he => h e (List.mem_cons_of_mem _ he)⟩
theorem sum_le {n : Nat} : ∀ {ts : List Str}, (∀ t ∈ ts, t.length ≤ n) → (ts.map (·.length)).sum ≤ ts.length * n
  | [], _ => by simp
  | t :: ts, h => by
    have h1 := h t List.mem_cons_self
    have h2 := sum_le (n := n) fun u hu => h u (List.mem_cons_of_mem _ hu)
    simp only [List.map_cons, List.sum_cons, List.length_cons, Nat.succ_mul]
    omega
theorem slen_app (a b : Str) : (a ++ b).length = a.length + b.length := by
  show (a.cps ++ b.cps).size = _
  rw [Array.size_append]
  rfl
theorem tup_le (ts : List Str) : (tupleText ts).length ≤ (listText ts).length + 1 := by
  rw [listText_eq_join]
  unfold tupleText
  rw [slen_app, slen_app, slen_app, slen_app]
  have e1 : ((("(" : String) : Str)).length = 1 := by decide +kernel
  have e2 : ((("[" : String) : Str)).length = 1 := by decide +kernel
  have e3 : ((("]" : String) : Str)).length = 1 := by decide +kernel
  have e4 : (((if ts.length == 1 then ",)" else ")" : String) : Str)).length ≤ 2 := by split <;> decide +kernel
  omega
structure RpOk (d : PyData) (n k : Nat) : Prop where
  sh : d.showable = true
  nd : d.hasDict = false
  dp : d.depth ≤ k
  ln : d.shown.length ≤ n
theorem int_le {i : Int} (h1 : -18446744073709551616 < i) (h2 : i < 18446744073709551616) : i.natAbs.log2 < 1920 := by
  have h : i.natAbs < 2 ^ 64 := by omega
  by_cases z : i.natAbs = 0
  · rw [z]; decide
  · exact Nat.lt_trans ((Nat.log2_lt z).mpr h) (by decide)
theorem rp_ok {d : PyData} {n k : Nat} (r : Rp d n k) : RpOk d n k := by
  induction r with
  | non => exact ⟨rfl, rfl, Nat.zero_le _, by simp only [PyData.shown]; decide +kernel⟩
  | bl b => exact ⟨rfl, rfl, Nat.zero_le _, by simp only [PyData.shown]; cases b <;> decide +kernel⟩
  | int h1 h2 =>
    refine ⟨?_, rfl, Nat.zero_le _, ?_⟩
    · simp only [PyData.showable]
      exact decide_eq_true (int_le h1 h2)
    · simp only [PyData.shown]
      rw [PySem.ofString_length]
      exact Nat.le_trans (int_text_length_le10 (k := 20) (by decide) (by omega)) (by decide)
  | str h =>
    rename_i l
    refine ⟨rfl, rfl, Nat.zero_le _, ?_⟩
    simp only [PyData.shown]
    have := StrLaws.reprText_len (⟨l.toArray⟩ : Str) (by intro c hc; have := h c (by simpa using hc); omega)
    rw [str_len] at this
    exact this
  | lst h ih =>
    rename_i ds n k
    refine ⟨?_, ?_, ?_, ?_⟩
    · simp only [PyData.showable]; exact showableAll_of fun d hd => (ih d hd).sh
    · simp only [PyData.hasDict]; exact hasDictAll_of fun d hd => (ih d hd).nd
    · simp only [PyData.depth]; exact Nat.succ_le_succ (depthAll_of fun d hd => (ih d hd).dp)
    · simp only [PyData.shown]
      rw [shownAll_map]
      have h1 := listText_len_le (ds.map PyData.shown)
      have h2 := sum_le (n := n) (ts := ds.map PyData.shown) (by
        intro t ht
        obtain ⟨d, hd, rfl⟩ := List.mem_map.mp ht
        exact (ih d hd).ln)
      rw [List.length_map] at h1 h2
      rw [Nat.mul_add]
      omega
  | tup h ih =>
    rename_i ds n k
    refine ⟨?_, ?_, ?_, ?_⟩
    · simp only [PyData.showable]; exact showableAll_of fun d hd => (ih d hd).sh
    · simp only [PyData.hasDict]; exact hasDictAll_of fun d hd => (ih d hd).nd
    · simp only [PyData.depth]; exact Nat.succ_le_succ (depthAll_of fun d hd => (ih d hd).dp)
    · simp only [PyData.shown]
      rw [shownAll_map]
      have h0 := tup_le (ds.map PyData.shown)
      have h1 := listText_len_le (ds.map PyData.shown)
      have h2 := sum_le (n := n) (ts := ds.map PyData.shown) (by
        intro t ht
        obtain ⟨d, hd, rfl⟩ := List.mem_map.mp ht
        exact (ih d hd).ln)
      rw [List.length_map] at h1 h2
      rw [Nat.mul_add]
      omega
  | more r l g ih => exact ⟨ih.sh, ih.nd, Nat.le_trans ih.dp g, Nat.le_trans ih.ln l⟩
/-- the signs of a thing's text -/
def shownL (d : PyData) : List Nat := d.shown.cps.toList
def rRepr (K : PySem.W.Frag) : List V → Hp → VK → Prop := fun xs H Q => ∃ (x : V) (d : PyData) (n : Nat), xs = [x] ∧ Dp K H x d ∧ Rp d n 40 ∧ n ≤ sz ∧ Q (T (shownL d)) H
theorem z_repr (hu : X.A.units + 64 < cLine) (ng : X.A.guards = some []) : CallR X (.builtin "repr") (rRepr X.K) := by
  intro pins s σ H xs us Q I r h
  obtain ⟨x, d, n, rfl, dp, rp, hn, q⟩ := h
  have ok := rp_ok rp
  have hln : d.shown.length ≤ sizeLine := by rw [sz_eq]; exact Nat.le_trans ok.ln hn
  have et : T (shownL d) = V.str d.shown := by
    show V.str _ = V.str _
    exact congrArg V.str (str_eta _).symm
  rw [et] at q
  obtain ⟨u, rfl, ru⟩ := vals1 r
  cases dp with
  | non =>
    cases ru
    exact PySem.P.repr_of_none ⟨.str _, H, I.tok _, ⟨_, rfl⟩, by simpa [PyData.shown] using q⟩
  | bl b =>
    cases ru
    exact PySem.P.repr_of_bool ⟨.str _, H, I.tok _, ⟨_, rfl⟩, by simpa [PyData.shown] using q⟩
  | int i =>
    obtain ⟨t, rfl⟩ := ru
    exact PySem.P.repr_of_int (by have := ok.sh; simpa [PyData.showable] using this) ⟨.str _, H, I.tok _, ⟨_, rfl⟩, by simpa [PyData.shown] using q⟩
  | str z =>
    obtain ⟨t, rfl⟩ := ru
    exact PySem.P.repr_of_str ⟨.str _, H, I.tok _, ⟨_, rfl⟩, by simpa [PyData.shown] using q⟩ (by simpa [PyData.shown] using hln)
  | lst h1 h2 =>
    rename_i a ys ds
    cases ru
    obtain ⟨as, rd⟩ := Dp.reads I _ _ _ (Dp.lst h1 h2) rfl
    have hd := ok.dp
    exact repr_of_reads' rd ok.sh (fun z => absurd z (by rw [ok.nd]; decide)) ng (by omega) (fun _ _ e => e) (fun h' u tk k => ⟨.str _, H, I.kept k, ⟨u, rfl⟩, q⟩) hln
  | tup h1 h2 =>
    rename_i a ys ds
    cases ru
    obtain ⟨as, rd⟩ := Dp.reads I _ _ _ (Dp.tup h1 h2) rfl
    have hd := ok.dp
    exact repr_of_reads' rd ok.sh (fun z => absurd z (by rw [ok.nd]; decide)) ng (by omega) (fun _ _ e => e) (fun h' u tk k => ⟨.str _, H, I.kept k, ⟨u, rfl⟩, q⟩) hln
/-! ### str(n), int(text), join, count -/
@[irreducible] def intL (i : Int) : List Nat := (Str.ofString (toString i)).cps.toList
def rStrI : List V → Hp → VK → Prop := fun xs H Q => ∃ i : Int, xs = [.int i] ∧ -18446744073709551616 < i ∧ i < 18446744073709551616 ∧ Q (T (intL i)) H
theorem z_str_i : CallR X (.type "str") rStrI := by
  intro pins s σ H xs us Q I r h
  obtain ⟨i, rfl, h1, h2, q⟩ := h
  refine call_str_int pins s σ H _ us Q I r ⟨i, rfl, int_le h1 h2, ?_⟩
  have e : T (intL i) = V.str (Str.ofString (toString i)) := by unfold intL; exact congrArg V.str (str_eta _).symm
  rw [← e]
  exact q
def rJoin (K : PySem.W.Frag) : V → List V → Hp → VK → Prop := fun x xs H Q => ∃ (a : List Nat) (p : Addr) (ys : List (List Nat)), x = T a ∧ xs = [.ref p] ∧ (SqL K H p (ys.map T) ∨ SqT K H p (ys.map T)) ∧
  (ys.map (·.length)).sum + ys.length * a.length ≤ sz ∧ Q (T (joinT a ys)) H
theorem join_is (a : List Nat) : ∀ ys : List (List Nat), (Str.join ⟨a.toArray⟩ (ys.map fun l => (⟨l.toArray⟩ : Str))) = ⟨(joinT a ys).toArray⟩
  | [] => rfl
  | [x] => rfl
  | x :: y :: r => by
    have ih := join_is a (y :: r)
    show (⟨x.toArray⟩ ++ ⟨a.toArray⟩ ++ Str.join ⟨a.toArray⟩ ((y :: r).map fun l => (⟨l.toArray⟩ : Str)) : Str) = ⟨(x ++ a ++ joinT a (y :: r)).toArray⟩
    rw [ih, str_app, str_app]
theorem mt_joinT : MtR X "str.join" (rJoin X.K) := by
  intro pins s σ H x xs v us Q I rx rs h
  obtain ⟨a, p, ys, rfl, rfl, hp, hz, q⟩ := h
  refine mt_join pins s σ H _ _ v us Q I rx rs ⟨⟨a.toArray⟩, p, ys.map fun l => (⟨l.toArray⟩ : Str), rfl, rfl, ?_, ?_, ?_⟩
  · rw [List.map_map]
    exact hp
  · rw [List.map_map, List.length_map, str_len]
    have e : ((fun x : Str => x.length) ∘ fun l : List Nat => (⟨l.toArray⟩ : Str)) = fun l : List Nat => l.length := by
      funext l
      exact str_len l
    rw [e]
    exact hz
  · rw [TL.join_eq, join_is]
    exact q
end
section
variable {X : Cx} {o e : Expr} {to te : TE}
theorem z_join {apos pos : Pos} (ho : PE X o to) (he : PE X e te) (hs : starEach [e] X.env = [(false, eval e X.env)] := by rfl) (hbase : attributeBase o "join" X.env (eval o X.env) = eval o X.env := by rfl) (hline : (apos.endLine == pos.line) = true := by rfl) :
    PE X (.Call (.Attribute o "join" apos) [e] [] pos) (tM1 (rJoin X.K) to te) :=
  pe_m1 PySem.F.slot_str_join PySem.F.type_str_join mt_joinT ho he hs hbase hline
end
section
variable {X : Cx} {o e : Expr} {to te : TE}
theorem cnt_is (c : Nat) : ∀ l : List Nat, cnt c l = (l.count c : Nat)
  | [] => rfl
  | n :: r => by
    rw [cnt_cons, cnt_is c r, List.count_cons]
    by_cases h : n = c
    · subst h; simp; omega
    · rw [if_neg h]; simp [h]
def rCount : V → List V → Hp → VK → Prop := fun x xs H Q => ∃ (l : List Nat) (c : Nat), x = T l ∧ xs = [T [c]] ∧ Q (.int (l.count c : Nat)) H
theorem mt_countT : MtR X "str.count" rCount := by
  intro pins s σ H x xs v us Q I rx rs h
  obtain ⟨l, c, rfl, rfl, q⟩ := h
  refine mt_count pins s σ H _ _ v us Q I rx rs ⟨⟨l.toArray⟩, ⟨#[c]⟩, rfl, rfl, ?_⟩
  rw [PyProof.Rows.count_cnt]
  show Q (.int (cnt c l.toArray.toList)) H
  have e : l.toArray.toList = l := by simp
  rw [e, cnt_is]
  exact q
theorem z_count {apos pos : Pos} (ho : PE X o to) (he : PE X e te) (hs : starEach [e] X.env = [(false, eval e X.env)] := by rfl) (hbase : attributeBase o "count" X.env (eval o X.env) = eval o X.env := by rfl) (hline : (apos.endLine == pos.line) = true := by rfl) :
    PE X (.Call (.Attribute o "count" apos) [e] [] pos) (tM1 rCount to te) :=
  pe_m1 PySem.F.slot_str_count PySem.F.type_str_count mt_countT ho he hs hbase hline
end
section
variable {X : Cx}
def rAbs : List V → Hp → VK → Prop := fun xs H Q => ∃ i : Int, xs = [.int i] ∧ Q (.int (if i < 0 then -i else i)) H
theorem z_abs : CallR X (.builtin "abs") rAbs := call_abs
def rMin2 : List V → Hp → VK → Prop := fun xs H Q => ∃ i j : Int, xs = [.int i, .int j] ∧ Q (.int (if j < i then j else i)) H
theorem z_min2 (hc : X.calm = true) : CallR X (.builtin "min") rMin2 := call_min2 hc
def rMax2 : List V → Hp → VK → Prop := fun xs H Q => ∃ i j : Int, xs = [.int i, .int j] ∧ Q (.int (if j > i then j else i)) H
theorem z_max2 (hc : X.calm = true) : CallR X (.builtin "max") rMax2 := call_max2 hc
def rDivmod : List V → Hp → VK → Prop := fun xs H Q => ∃ i j : Int, xs = [.int i, .int j] ∧ CDiv i j ∧ ∀ p, H p = none → Q (.ref p) (upd H p (.tup [.int (i / j), .int (i % j)]))
theorem z_divmod : CallR X (.builtin "divmod") rDivmod := call_divmod
theorem z_str_of : CallR X (.type "str") rStrI := z_str_i
end
section
variable {X : Cx} {a : Expr} {ta : TE}
def zTru (K : PySem.W.Frag) (Q : Bool → Hp → Prop) (x : V) (H : Hp) : Prop := ∃ k, TruV K x H k ∧ Q k H
def tTruth (K : PySem.W.Frag) (ta : TE) : TT := fun σ H Q => ta σ H (zTru K Q)
theorem z_truth (ha : PE X a ta) (he : ∀ whole, isTrue a X.env whole = (do let v ← whole; standAt a.pos; holding [v] (truthy v))) : PT X a (tTruth X.K ta) := pt_truth ha he
end
/-! ### enumerate of a text -/
/-- sign by sign, from k on, each in a new pair -/
def Itn (x : List Nat) (k : Int) : It :=
  ⟨fun i _ => i < x.length, fun i H v H' => ∃ (p : Addr) (c : Nat), v = .ref p ∧ H p = none ∧ H' = upd H p (.tup [.int (k + (i : Nat)), T [c]]) ∧ x[i]? = some c, fun i _ => i = x.length⟩
theorem turn_enumT {P : Program} {w : World} {K : PySem.W.Frag} {elts : List Expr} {kk : Nat} {tpos : Pos} (x : List Nat) (t : Tok) (k : Int) (e it : Addr) (ne : e ≠ it) :
    Turn P w K (.Tuple elts kk tpos) (Itn x k) [e, it] e (fun i h => (∃ old, IsEnum h e it (k + (i : Int)) old) ∧ h.IsStrIter it (strIterType ⟨x.toArray⟩) ⟨x.toArray⟩ t i) where
  mem := List.mem_cons_self
  obj := by
    rintro i h ⟨⟨old, he⟩, o, ho, hc, hd⟩ b hb
    rcases List.mem_cons.mp hb with z | z
    · rw [z]; exact ⟨_, he, fun v q => nomatch q⟩
    · rw [List.mem_singleton.mp z]; exact ⟨o, ho, fun v q => by rw [hd] at q; cases q⟩
  keep := by
    rintro i h h' ⟨⟨old, he⟩, o, ho, r⟩ kp
    exact ⟨⟨old, kp e (by simp) _ he⟩, o, kp it (by simp) o ho, r⟩
  item := by
    intro X hP hw hK hc i pins s σ H E I hf st hg
    subst hP hw hK
    have G := GoesN.enumFrom (prog := X.prog) (w := X.w) (A := X.A) (elts := elts) (x1 := kk) (pos := tpos) k
      (Draws.text (prog := X.prog) (w := X.w) (A := X.A.in1) (I.ok.hd hc) it ⟨x.toArray⟩ t) e ne (by simpa using ne) (by simp)
    have hg1 : i < x.length := hg
    have hi : i < (⟨x.toArray⟩ : Str).cps.size := by simpa using hg1
    refine wpAny_mono (G.goes i s (fun v s2 => ∃ x_1 H', Inv X pins σ H' s2 ∧ RelV x_1 v ∧ (Itn x k).yld i H x_1 H' ∧ ((∃ old, IsEnum s2.heap e it (k + ((i + 1 : Nat) : Int)) old) ∧ s2.heap.IsStrIter it (strIterType ⟨x.toArray⟩) ⟨x.toArray⟩ t (i + 1)) ∧ ∀ b ∈ [e, it], H' b = none) E hi st ?_) (fun r s1 q => q) fun _ _ q => q
    intro v h' tk y st' kp htk
    obtain ⟨p, tk1, xv, rfl, hp, ⟨c, u, hx, rfl⟩, o, ho, hcl, n, hd⟩ := y
    have hx' : x[i]? = some c := by simpa using hx
    have new : ObjOk X.prog X.w (upd H p (.tup [.int (k + (i : Nat)), T [c]])) h' p (.tup [.int (k + (i : Nat)), T [c]]) :=
      ⟨by show 2 ≤ sizeLine; decide, [.int (k + (i : Int)) tk1, .str ⟨#[c]⟩ u], .cons ⟨_, rfl⟩ (.cons ⟨_, rfl⟩ .nil), ⟨o, ho, hcl, n, hd⟩⟩
    have I1 := I.turnedNew (t' := tk) (ch := [e, it]) kp hf hp new
    refine ⟨.ref p, _, I1, rfl, ⟨p, c, rfl, I.hok.fresh hp, rfl, hx'⟩, st', ?_⟩
    intro b hb
    have old : b < s.heap.objs.size := by
      obtain ⟨⟨_, he⟩, o2, ho2, _⟩ := st
      rcases List.mem_cons.mp hb with z | z
      · rw [z]; exact Heap.lt_size he
      · rw [List.mem_singleton.mp z]; exact Heap.lt_size ho2
    rw [upd_ne (Nat.ne_of_lt (Nat.lt_of_lt_of_le old hp))]
    exact (hf b hb).1
  done := by
    intro X hP hw hK hc i pins s σ H E I hf st hg
    subst hP hw hK
    have G := GoesN.enumFrom (prog := X.prog) (w := X.w) (A := X.A) (elts := elts) (x1 := kk) (pos := tpos) k
      (Draws.text (prog := X.prog) (w := X.w) (A := X.A.in1) (I.ok.hd hc) it ⟨x.toArray⟩ t) e ne (by simpa using ne) (by simp)
    have hi : i = (⟨x.toArray⟩ : Str).cps.size := by
      have z : i = x.length := hg
      rw [z]; simp
    refine G.stops s (fun s1 => Inv X pins σ H s1) E (hi ▸ st) ?_
    intro h' tk kp _
    refine I.step (g' := s.gens) (d' := s.drawn) (ch := [e, it]) (fun b hb => ⟨(hf b hb).2.2.2.1, (hf b hb).2.1, (hf b hb).2.2.2.2.1, (hf b hb).2.2.2.2.2⟩) (fun b o _ _ hc q _ => kp b o hc q) (fun b o _ _ hc q _ => ⟨o.slots, kp b o hc q⟩)
      (fun _ _ _ _ n => n) (fun b o hc q => ⟨o, kp b o hc q⟩) (fun _ _ q => q) (fun _ _ _ q => q) (fun b ps q => ⟨#[], by rw [q]; simp⟩) ?_ ?_ I.bare
    · rintro m ⟨o, es, ep, ho, r⟩
      exact ⟨o, es, ep, kp _ o (fun z => (hf _ z).2.1 rfl) ho, r⟩
    · intro b u q
      have nb : ∀ c v, H c = some v → c ∉ [e, it] := fun c v z hc => by
        have := (hf c hc).1
        rw [z] at this
        cases this
      refine (I.hok b u q).stay (fun c v hc r => kp c v ?_ r) (fun _ z => z) fun _ _ z => z
      rcases hc with z | z
      · rw [z]; exact nb b u q
      · exact nb c _ z
  self := by
    rintro A i s Q E ⟨⟨_, he⟩, _⟩ h
    exact wpAny_pyIter_enum he h
def iEnumT (ta : TA) : TI := fun σ H R => ta σ H fun vs H1 => ∃ x : List Nat, vs = [T x] ∧ R (Itn x 0) H1
theorem z_enumS {X : Cx} {e : Expr} {ta : TA} {p pos tpos : Pos} {elts : List Expr} {kk : Nat} (hg : Gl X "enumerate") (hm : X.mg "enumerate" = none) (ha : PA X [e] ta) (hs : starEach [e] X.env = [(false, eval e X.env)] := by rfl) :
    PI X (.Tuple elts kk tpos) (.Call (.Name "enumerate" p) [e] [] pos) (iEnumT ta) := by
  constructor
  intro pins s σ H R I h
  refine Call_ (ld_blt I hg hm boot_enumerate (PyProof.Rows.callWith_type1 (thn (ha.run pos pins s σ H _ I h) ?_) hs rfl))
  rintro us s1 ⟨vs, H1, I1, r1, x, rfl, q⟩
  obtain ⟨u, rfl, t, rfl⟩ := vals1 r1
  refine call_enumerate_str fun h' he hit hsz hk => wpAny_pyIter_enum he ?_
  have I2 : Inv X pins σ H1 { s1 with heap := h' } := I1.kept (t' := s1.toks) hk
  refine ⟨s1.heap.objs.size + 1, [s1.heap.objs.size + 1, s1.heap.objs.size], _, _, H1, rfl, I2, turn_enumT x t 0 (s1.heap.objs.size + 1) s1.heap.objs.size (Nat.succ_ne_self _), ⟨⟨.none, he⟩, hit⟩, ?_, q⟩
  intro b hb
  have le : s1.heap.objs.size ≤ b := by
    rcases List.mem_cons.mp hb with z | z
    · rw [z]; exact Nat.le_succ _
    · rw [List.mem_singleton.mp z]; exact Nat.le_refl _
  exact I1.fpOk le (I1.hok.fresh le)
theorem walk_enumT {x : List Nat} {k : Int} : Walk (Itn x k) x.length (fun _ => True) (YPair (fun i => some (.int (k + (i : Nat)))) (fun i => (x[i]?).map fun c => T [c])) :=
  ⟨fun _ _ hi _ => hi, fun _ _ => rfl, fun i H v H' _ _ ⟨p, c, h1, h2, h3, h4⟩ => ⟨p, _, _, h1, h2, h3, rfl, by show Option.map _ x[i]? = _; rw [h4]; rfl⟩⟩
end Z
/-! Z, part F: loops and comprehensions. -/
namespace Z
open PySem PySem.Spec PyProof.Rows L2
section
variable {σ σ' : L2.St} {H : Hp} {D : Ends} {t u ts tb : TS} {te ta tc to : TE} {tt : TT} {tr : TA} {Q : VK} {K : PySem.W.Frag} {x y v : V} {i j : Nat} {a b p : Addr} {g : TG} {xs : List V}
/-- what a walked thing leaves to be shown -/
def zFor (g : TG) (tb : TS) (D : Ends) (σ : L2.St) (J : It) (H : Hp) : Prop :=
  ∃ W : Nat → Nat → L2.St → Hp → Prop, (∃ m, W 0 m σ H) ∧ ∀ i m σ H, W i m σ H →
    (J.stop i H ∧ D.nx σ H) ∨ (J.go i H ∧ ∃ N : L2.St → Hp → Prop, (∀ σ' H', N σ' H' → ∃ m', m' < m ∧ W (i + 1) m' σ' H') ∧ ∀ x H', J.yld i H x H' → g x σ H' fun σ2 H2 => tb { D with nx := N, ct := N, bk := D.nx } σ2 H2)
theorem for_ {wi : TI} (h : wi σ H (zFor g tb D σ)) : tFor wi g tb D σ H := h
theorem seq_for {wi : TI} (h : wi σ H (zFor g tb { D with nx := u D } σ)) : tSeq (tFor wi g tb) u D σ H := h
def zList (K : PySem.W.Frag) (R : It → Hp → Prop) (x : V) (H : Hp) : Prop := ∃ a, x = .ref a ∧ (∃ xs, SqL K H a xs) ∧ R (Itl K a) H
theorem ilist_ {R : It → Hp → Prop} (h : te σ H (zList K R)) : iList K te σ H R := h
theorem zlist_ {R : It → Hp → Prop} (e : H a = some (.lst xs)) (h : R (Itl K a) H) : zList K R (.ref a) H := ⟨a, rfl, ⟨xs, SqL.of e⟩, h⟩
theorem zlistQ_ {R : It → Hp → Prop} (e : SqL K H a xs) (h : R (Itl K a) H) : zList K R (.ref a) H := ⟨a, rfl, ⟨xs, e⟩, h⟩
def zTupI (K : PySem.W.Frag) (R : It → Hp → Prop) (x : V) (H : Hp) : Prop := ∃ a, x = .ref a ∧ (∃ xs, SqT K H a xs) ∧ R (Itt K a) H
theorem itup_ {R : It → Hp → Prop} (h : te σ H (zTupI K R)) : iTup K te σ H R := h
theorem ztupi_ {R : It → Hp → Prop} (e : H a = some (.tup xs)) (h : R (Itt K a) H) : zTupI K R (.ref a) H := ⟨a, rfl, ⟨xs, SqT.of e⟩, h⟩
def zStr (R : It → Hp → Prop) (x : V) (H : Hp) : Prop := ∃ z, x = .str z ∧ R (Its z) H
theorem istr_ {R : It → Hp → Prop} (h : te σ H (zStr R)) : iStr te σ H R := h
theorem zstr_ {R : It → Hp → Prop} {l : List Nat} (h : R (Its ⟨l.toArray⟩) H) : zStr R (T l) H := ⟨_, rfl, h⟩
def zRng1 (R : It → Hp → Prop) (vs : List V) (H : Hp) : Prop := ∃ j : Int, vs = [.int j] ∧ -(2 ^ 62) ≤ j ∧ j < 2 ^ 62 ∧ R (Itr 0 j.toNat) H
theorem irng1_ {R : It → Hp → Prop} (h : tr σ H (zRng1 R)) : iRng1 tr σ H R := h
theorem zrng1_ {R : It → Hp → Prop} {n : Int} (e1 : -4611686018427387904 ≤ n) (e2 : n < 4611686018427387904) (h : R (Itr 0 n.toNat) H) : zRng1 R [.int n] H := ⟨n, rfl, e1, e2, h⟩
def zRng2 (R : It → Hp → Prop) (vs : List V) (H : Hp) : Prop := ∃ i j : Int, vs = [.int i, .int j] ∧ (-(2 ^ 62) ≤ i ∧ i < 2 ^ 62 ∧ -(2 ^ 62) ≤ j ∧ j < 2 ^ 62) ∧ R (Itr i (j - i).toNat) H
theorem irng2_ {R : It → Hp → Prop} (h : tr σ H (zRng2 R)) : iRng2 tr σ H R := h
theorem zrng2_ {R : It → Hp → Prop} {n m : Int} (e1 : -4611686018427387904 ≤ n) (e2 : n < 4611686018427387904) (e3 : -4611686018427387904 ≤ m) (e4 : m < 4611686018427387904) (h : R (Itr n (m - n).toNat) H) : zRng2 R [.int n, .int m] H := ⟨n, m, rfl, ⟨e1, e2, e3, e4⟩, h⟩
def zEnT (R : It → Hp → Prop) (vs : List V) (H : Hp) : Prop := ∃ x : List Nat, vs = [T x] ∧ R (Itn x 0) H
theorem ient_ {R : It → Hp → Prop} (h : tr σ H (zEnT R)) : iEnumT tr σ H R := h
theorem zent_ {R : It → Hp → Prop} {l : List Nat} (h : R (Itn l 0) H) : zEnT R [T l] H := ⟨l, rfl, h⟩
/-- a for, by its invariant -/
theorem forZ {J : It} {n : Nat} {G : Hp → Prop} {Y : Nat → Hp → V → Hp → Prop} (w : Walk J n G Y) (Pv : Nat → L2.St → Hp → Prop) (h0 : Pv 0 σ H) (hG : ∀ i σ H, i ≤ n → Pv i σ H → G H)
    (hs : ∀ i x σ H H', i < n → Pv i σ H → Y i H x H' → g x σ H' fun σ2 H2 => tb { D with nx := Pv (i + 1), ct := Pv (i + 1), bk := D.nx } σ2 H2) (hd : ∀ σ H, Pv n σ H → D.nx σ H) : zFor g tb D σ J H :=
  for_it w Pv h0 hG hs hd
/-- over a text -/
theorem forT {l : List Nat} (Pv : Nat → L2.St → Hp → Prop) (h0 : Pv 0 σ H)
    (hs : ∀ (i : Nat) (c : Nat) σ H, l[i]? = some c → Pv i σ H → tb { D with nx := Pv (i + 1), ct := Pv (i + 1), bk := D.nx } (List.set σ j (some (T [c]))) H) (hd : ∀ σ H, Pv l.length σ H → D.nx σ H) :
    zFor (gName j) tb D σ (Its ⟨l.toArray⟩) H := by
  have w : Walk (Its (⟨l.toArray⟩ : Str)) l.length (fun _ => True) (fun i H v H' => H' = H ∧ ∃ c, l[i]? = some c ∧ v = T [c]) := by
    have := walk_str (z := (⟨l.toArray⟩ : Str))
    simpa using this
  refine forZ w Pv h0 (fun _ _ _ _ _ => trivial) ?_ hd
  rintro i x σ H _ hi p ⟨rfl, c, hc, rfl⟩
  exact hs i c σ _ hc p
/-- over numbers -/
theorem forR {lo : Int} {n : Nat} (Pv : Nat → L2.St → Hp → Prop) (h0 : Pv 0 σ H)
    (hs : ∀ (i : Nat) σ H, i < n → Pv i σ H → tb { D with nx := Pv (i + 1), ct := Pv (i + 1), bk := D.nx } (List.set σ j (some (.int (lo + i)))) H) (hd : ∀ σ H, Pv n σ H → D.nx σ H) :
    zFor (gName j) tb D σ (Itr lo n) H := by
  refine forZ walk_range Pv h0 (fun _ _ _ _ _ => trivial) ?_ hd
  rintro i x σ H _ hi p ⟨rfl, rfl⟩
  exact hs i σ _ hi p
/-- over a list that stands still -/
theorem forL {xs : List V} (Pv : Nat → L2.St → Hp → Prop) (h0 : Pv 0 σ H) (hl : ∀ i σ H, i ≤ xs.length → Pv i σ H → SqL K H a xs)
    (hs : ∀ (i : Nat) (x : V) σ H, xs[i]? = some x → Pv i σ H → tb { D with nx := Pv (i + 1), ct := Pv (i + 1), bk := D.nx } (List.set σ j (some x)) H) (hd : ∀ σ H, Pv xs.length σ H → D.nx σ H) :
    zFor (gName j) tb D σ (Itl K a) H := by
  refine forZ walk_list Pv h0 hl ?_ hd
  rintro i x σ H _ hi p ⟨rfl, hx⟩
  exact hs i x σ _ hx p
/-- over the signs of a text with their places; the pair is taken apart at once -/
theorem forEnT {l : List Nat} {n : Int} {i1 i2 : Nat} (Pv : Nat → L2.St → Hp → Prop) (h0 : Pv 0 σ H)
    (hs : ∀ (i : Nat) (c : Nat) σ H H', l[i]? = some c → Pv i σ H → Ex H H' → tb { D with nx := Pv (i + 1), ct := Pv (i + 1), bk := D.nx } (List.set (List.set σ i1 (some (.int (n + i)))) i2 (some (T [c]))) H') (hd : ∀ σ H, Pv l.length σ H → D.nx σ H) :
    zFor (gTup K 2 (gCons (gName i1) (gCons (gName i2) gNil))) tb D σ (Itn l n) H := by
  refine forZ walk_enumT Pv h0 (fun _ _ _ _ _ => trivial) ?_ hd
  rintro i x σ H H' hi p ⟨q, a1, a2, rfl, hq, rfl, e1, e⟩
  obtain rfl : V.int (n + (i : Nat)) = a1 := Option.some.inj e1
  obtain ⟨c, hc, rfl⟩ := Option.map_eq_some_iff.mp e
  exact ⟨q, _, rfl, SqT.of upd_same, rfl, _, _, rfl, _, _, rfl, rfl, hs i c σ H _ hc p (Ex.new hq)⟩
/-- a while, by an invariant with a measure -/
def less (Pv : Nat → L2.St → Hp → Prop) (m : Nat) : L2.St → Hp → Prop := fun σ' H' => ∃ m', m' < m ∧ Pv m' σ' H'
def zWh (tb : TS) (D : Ends) (Pv : Nat → L2.St → Hp → Prop) (m : Nat) (σ : L2.St) (c : Bool) (H : Hp) : Prop :=
  if c = true then ∃ N : L2.St → Hp → Prop, (∀ σ' H', N σ' H' → ∃ m', m' < m ∧ Pv m' σ' H') ∧ tb { D with nx := N, ct := N, bk := D.nx } σ H else D.nx σ H
theorem while_ (Pv : Nat → L2.St → Hp → Prop) (m0 : Nat) (h0 : Pv m0 σ H) (hs : ∀ m σ H, Pv m σ H → tt σ H (zWh tb D Pv m σ)) : tWhile tt tb D σ H :=
  ⟨Pv, ⟨m0, h0⟩, hs⟩
theorem seq_while (Pv : Nat → L2.St → Hp → Prop) (m0 : Nat) (h0 : Pv m0 σ H) (hs : ∀ m σ H, Pv m σ H → tt σ H (zWh tb { D with nx := u D } Pv m σ)) : tSeq (tWhile tt tb) u D σ H := while_ (D := { D with nx := u D }) Pv m0 h0 hs
theorem zwh_d {Pv : Nat → L2.St → Hp → Prop} {m : Nat} {q : Prop} [Decidable q] (h1 : q → tb { D with nx := less Pv m, ct := less Pv m, bk := D.nx } σ H) (h2 : ¬ q → D.nx σ H) : zWh tb D Pv m σ (decide q) H := by
  unfold zWh
  by_cases h : q
  · rw [decide_eq_true h, if_pos rfl]; exact ⟨_, fun _ _ z => z, h1 h⟩
  · rw [decide_eq_false h, if_neg Bool.false_ne_true]; exact h2 h
theorem zwh_b {Pv : Nat → L2.St → Hp → Prop} {m : Nat} {k : Bool} (h1 : k = true → tb { D with nx := less Pv m, ct := less Pv m, bk := D.nx } σ H) (h2 : k = false → D.nx σ H) : zWh tb D Pv m σ k H := by
  unfold zWh
  cases k with
  | true => exact ⟨_, fun _ _ z => z, h1 rfl⟩
  | false => exact h2 rfl
theorem less_ {Pv : Nat → L2.St → Hp → Prop} {m : Nat} (m' : Nat) (l : m' < m) (p : Pv m' σ H) : less Pv m σ H := ⟨m', l, p⟩
/-! ### tuples taken apart, stores -/
theorem seq_asgG (h : te σ H fun x H1 => g x σ H1 fun σ1 H2 => u D σ1 H2) : tSeq (tAsg te g) u D σ H := h
theorem asgG_ (h : te σ H fun x H1 => g x σ H1 D.nx) : tAsg te g D σ H := h
theorem gname_ {Q : L2.St → Hp → Prop} (h : Q (List.set σ j (some v)) H) : gName j v σ H Q := h
theorem gtup_ {n : Nat} {tg : TGs} {Q : L2.St → Hp → Prop} (e : H a = some (.tup xs)) (l : xs.length = n) (h : tg xs σ H Q) : gTup K n tg (.ref a) σ H Q := ⟨a, xs, rfl, SqT.of e, l, h⟩
theorem gcons_ {tg : TGs} {Q : L2.St → Hp → Prop} (h : g v σ H fun σ' H' => tg xs σ' H' Q) : gCons g tg (v :: xs) σ H Q := ⟨v, xs, rfl, h⟩
theorem gnil_ {Q : L2.St → Hp → Prop} (h : Q σ H) : gNil [] σ H Q := ⟨rfl, h⟩
theorem gsub_ {s : TSet} {Q : L2.St → Hp → Prop} (h : to σ H fun o H1 => ta σ H1 fun i H2 => s o i v H2 fun H3 => Q σ H3) : gSub to ta s v σ H Q := h
theorem setL_ {Q : Hp → Prop} {k : Int} {n : Nat} (e : H a = some (.lst xs)) (e2 : ixN xs.length k = some n) (h : ∀ H', H' a = some (.lst (xs.set n v)) → But a H H' → Q H') : rSetL (.ref a) (.int k) v H Q :=
  ⟨a, xs, k, n, rfl, rfl, e, e2, h _ upd_same But.upd⟩
def zPar (i j : Nat) (σ : L2.St) (Q : L2.St → Hp → Prop) (vs : List V) (H : Hp) : Prop := ∃ v w, vs = [v, w] ∧ Q (List.set (List.set σ i (some v)) j (some w)) H
theorem seq_par (h : tr σ H (zPar i j σ (u D))) : tSeq (tPar i j tr) u D σ H := h
theorem par_ (h : tr σ H (zPar i j σ D.nx)) : tPar i j tr D σ H := h
theorem zpar_ {Q : L2.St → Hp → Prop} {v w : V} (h : Q (List.set (List.set σ i (some v)) j (some w)) H) : zPar i j σ Q [v, w] H := ⟨v, w, rfl, h⟩
theorem seq_aug {ti : TIp} (e : σ[i]? = some (some x)) (h : te σ H fun y H1 => ti x y H1 fun z H2 => u D (List.set σ i (some z)) H2) : tSeq (tAug i te ti) u D σ H := ⟨x, e, h⟩
theorem aug_ {ti : TIp} (e : σ[i]? = some (some x)) (h : te σ H fun y H1 => ti x y H1 fun z H2 => D.nx (List.set σ i (some z)) H2) : tAug i te ti D σ H := ⟨x, e, h⟩
theorem augS_ {tg : V → V → Hp → VK → Prop} {ti : TIp} {s : TSet} (h : to σ H fun o H1 => ta σ H1 fun i H2 => tg o i H2 fun x H3 => te σ H3 fun y H4 => ti x y H4 fun z H5 => s o i z H5 fun H6 => D.nx σ H6) : tAugS to ta te tg ti s D σ H := h
theorem getL_ {k : Int} (e : H a = some (.lst xs)) (e2 : atI xs k = some v) (h : Q v H) : gList K (.ref a) (.int k) H Q := ⟨a, xs, k, v, rfl, rfl, SqL.of e, e2, h⟩
theorem iaddI {n m : Int} (h : Q (.int (n + m)) H) : pAddZ (.int n) (.int m) H Q := .inl ⟨n, m, rfl, rfl, h⟩
theorem iaddS {l m : List Nat} (e : l.length + m.length ≤ 16777216) (h : Q (T (l ++ m)) H) : pAddZ (T l) (T m) H Q := .inr ⟨l, m, rfl, rfl, e, h⟩
theorem isubI {n m : Int} (h : Q (.int (n - m)) H) : pSubZ (.int n) (.int m) H Q := ⟨n, m, rfl, rfl, h⟩
/-! ### methods and calls of the language -/
def zBM (K : PySem.W.Frag) (s : String) (r : V → List V → Hp → VK → Prop) (tr : TA) (σ : L2.St) (Q : VK) (x : V) (H : Hp) : Prop := tyV K s x H ∧ tr σ H fun xs H2 => r x xs H2 Q
theorem bm_ {s : String} {r : V → List V → Hp → VK → Prop} (h : to σ H (zBM K s r tr σ Q)) : tBM K s r to tr σ H Q := h
theorem zbmL_ {r : V → List V → Hp → VK → Prop} (e : H a = some (.lst xs)) (h : tr σ H fun ys H2 => r (.ref a) ys H2 Q) : zBM K "list" r tr σ Q (.ref a) H := ⟨.inl ⟨rfl, _, SqL.of e⟩, h⟩
theorem append_ (e : H a = some (.lst xs)) (l : xs.length < 16777216) (h : ∀ H', H' a = some (.lst (xs ++ [v])) → But a H H' → Q .non H') : rAppend (.ref a) [v] H Q :=
  ⟨a, xs, v, rfl, rfl, e, by rw [sz_eq]; exact l, h _ upd_same But.upd⟩
def zM1 (r : V → List V → Hp → VK → Prop) (te : TE) (σ : L2.St) (Q : VK) (x : V) (H : Hp) : Prop := (∃ a, x = .str a) ∧ te σ H fun y H2 => r x [y] H2 Q
theorem m1_ {r : V → List V → Hp → VK → Prop} (h : to σ H (zM1 r te σ Q)) : tM1 r to te σ H Q := h
theorem zm1_ {r : V → List V → Hp → VK → Prop} {l : List Nat} (h : te σ H fun y H2 => r (T l) [y] H2 Q) : zM1 r te σ Q (T l) H := ⟨⟨_, rfl⟩, h⟩
theorem join_ {l : List Nat} {ys : List (List Nat)} (e : H a = some (.lst (ys.map T))) (e2 : (ys.map (·.length)).sum + ys.length * l.length ≤ 16777216) (h : Q (T (joinT l ys)) H) : rJoin K (T l) [.ref a] H Q :=
  ⟨l, a, ys, rfl, rfl, .inl (SqL.of e), e2, h⟩
theorem count_ {l : List Nat} {c : Nat} (h : Q (.int (l.count c : Nat)) H) : rCount (T l) [T [c]] H Q := ⟨l, c, rfl, rfl, h⟩
theorem strI_ {n : Int} (e1 : -18446744073709551616 < n) (e2 : n < 18446744073709551616) (h : Q (T (intL n)) H) : rStrI [.int n] H Q := ⟨n, rfl, e1, e2, h⟩
theorem divmod_ {n m : Int} (e1 : 0 < m) (e2 : m < 1073741824) (h : ∀ p H', H p = none → Ex H H' → H' p = some (.tup [.int (n / m), .int (n % m)]) → Q (.ref p) H') : rDivmod [.int n, .int m] H Q := ⟨n, m, rfl, ⟨e1, e2⟩, new_ h⟩
theorem abs_ {n : Int} (h : Q (.int (if n < 0 then -n else n)) H) : rAbs [.int n] H Q := ⟨n, rfl, h⟩
theorem min2_ {n m : Int} (h : Q (.int (if m < n then m else n)) H) : rMin2 [.int n, .int m] H Q := ⟨n, m, rfl, h⟩
theorem max2_ {n m : Int} (h : Q (.int (if m > n then m else n)) H) : rMax2 [.int n, .int m] H Q := ⟨n, m, rfl, h⟩
theorem nx_ {N : L2.St → Hp → Prop} (e : D.nx = N) (h : N σ H) : D.nx σ H := e ▸ h
theorem rt_ {R : VK} (e : D.rt = R) (h : R v H) : D.rt v H := e ▸ h
theorem bk_ {N : L2.St → Hp → Prop} (e : D.bk = N) (h : N σ H) : D.bk σ H := e ▸ h
theorem ct_ {N : L2.St → Hp → Prop} (e : D.ct = N) (h : N σ H) : D.ct σ H := e ▸ h
theorem brk_ (h : D.bk σ H) : tBreak D σ H := h
theorem cont_ (h : D.ct σ H) : tCont D σ H := h
theorem cut_ (M : L2.St → Hp → Prop) (h : t { D with nx := M } σ H) (k : ∀ σ' H', M σ' H' → u D σ' H') : Evl.tCut t u D σ H := ⟨M, h, k⟩
theorem cutSeq_ (h : t { D with nx := u D } σ H) : Evl.tCut t u D σ H := ⟨u D, h, fun _ _ z => z⟩
theorem repr_ {d : PyData} {n : Nat} (e1 : Dp K H x d) (e2 : Rp d n 40) (e3 : n ≤ 16777216) (h : Q (T (shownL d)) H) : rRepr K [x] H Q := ⟨x, d, n, rfl, e1, e2, e3, h⟩
theorem truth_ {R : Bool → Hp → Prop} (h : te σ H (zTru K R)) : tTruth K te σ H R := h
theorem ztru_b {R : Bool → Hp → Prop} {k : Bool} (h : R k H) : zTru K R (.bl k) H := ⟨k, rfl, h⟩
theorem ztru_S {R : Bool → Hp → Prop} {l : List Nat} (e : l.length ≤ 16777216) (h : R (decide (l ≠ [])) H) : zTru K R (T l) H := by
  refine ⟨_, ⟨by rw [str_len, sz_eq]; exact e, ?_⟩, h⟩
  rw [str_len]
  cases l <;> simp
  omega
def zOrT (K : PySem.W.Frag) (tb : TE) (σ : L2.St) (Q : VK) (x : V) (H : Hp) : Prop := ∃ k, TruV K x H k ∧ if k = true then Q x H else tb σ H Q
theorem orT_ {tb : TE} (h : ta σ H (zOrT K tb σ Q)) : tOrT K ta tb σ H Q := h
theorem zorT_S {tb : TE} {l : List Nat} (e : l.length ≤ 16777216) (h1 : l ≠ [] → Q (T l) H) (h2 : l = [] → tb σ H Q) : zOrT K tb σ Q (T l) H := by
  refine ⟨decide (l ≠ []), ⟨by rw [str_len, sz_eq]; exact e, ?_⟩, ?_⟩
  · rw [str_len]
    cases l <;> simp
    omega
  · by_cases h : l = []
    · rw [decide_eq_false (fun z => z h)]; exact h2 h
    · rw [decide_eq_true h]; exact h1 h
inductive RpAll (n k : Nat) : List PyData → Prop
  | nil : RpAll n k []
  | cons {d : PyData} {ds : List PyData} {m j : Nat} (h : Rp d m j) (hm : m ≤ n) (hj : j ≤ k) (r : RpAll n k ds) : RpAll n k (d :: ds)
theorem RpAll.mem {n k : Nat} {ds : List PyData} (h : RpAll n k ds) : ∀ d ∈ ds, Rp d n k := by
  induction h with
  | nil => intro d hd; cases hd
  | cons h hm hj _ ih =>
    intro d hd
    rcases List.mem_cons.mp hd with z | z
    · rw [z]; exact .more h hm hj
    · exact ih d z
/-! ### comprehensions -/
def zLc (g : TG) (tt : TT) (te : TE) (vs : List Nat) (σ : L2.St) (Q : VK) (J : It) (H1 : Hp) : Prop := ∀ D, H1 D = none → ∃ W : Nat → Nat → Hp → Prop, (∃ m, W 0 m (upd H1 D (.lst []))) ∧ ∀ i m H, W i m H →
  (J.stop i H ∧ Q (.ref D) H) ∨ (J.go i H ∧ ∃ Nx : Hp → Prop, (∀ H', Nx H' → ∃ m', m' < m ∧ W (i + 1) m' H') ∧ ∀ x H', J.yld i H x H' → g x (wipe σ vs) H' fun σ2 H2 => wipe σ2 vs = wipe σ vs ∧ tt σ2 H2 fun b H3 =>
    if b = true then te σ2 H3 fun y H4 => ∃ acc, H4 D = some (.lst acc) ∧ acc.length < sizeLine ∧ Nx (upd H4 D (.lst (acc ++ [y]))) else Nx H3)
theorem lc_ {wi : TI} {vs : List Nat} (h : wi σ H (zLc g tt te vs σ Q)) : tLc wi g tt te vs σ H Q := h
def zPut1 (D : Addr) (N : Hp → Prop) (y : V) (H : Hp) : Prop := ∃ acc, H D = some (.lst acc) ∧ acc.length < sizeLine ∧ N (upd H D (.lst (acc ++ [y])))
def zPut (te : TE) (D : Addr) (N : Hp → Prop) (σ : L2.St) (b : Bool) (H : Hp) : Prop := if b = true then te σ H (zPut1 D N) else N H
theorem zput_t {D : Addr} {N : Hp → Prop} (h : te σ H (zPut1 D N)) : zPut te D N σ true H := h
theorem zput_d {D : Addr} {N : Hp → Prop} {q : Prop} [Decidable q] (h1 : q → te σ H (zPut1 D N)) (h2 : ¬ q → N H) : zPut te D N σ (decide q) H := by
  unfold zPut
  by_cases h : q
  · rw [decide_eq_true h, if_pos rfl]; exact h1 h
  · rw [decide_eq_false h, if_neg Bool.false_ne_true]; exact h2 h
theorem zput_n {D : Addr} {N : Hp → Prop} {q : Prop} [Decidable q] (h1 : ¬ q → te σ H (zPut1 D N)) (h2 : q → N H) : zPut te D N σ (!decide q) H := by
  unfold zPut
  by_cases h : q
  · rw [decide_eq_true h]; exact h2 h
  · rw [decide_eq_false h]; exact h1 h
theorem zput_b {D : Addr} {N : Hp → Prop} {k : Bool} (h1 : k = true → te σ H (zPut1 D N)) (h2 : k = false → N H) : zPut te D N σ k H := by
  unfold zPut
  cases k with
  | true => exact h1 rfl
  | false => exact h2 rfl
theorem zput1_ {D : Addr} {N : Hp → Prop} {acc : List V} (e : H D = some (.lst acc)) (l : acc.length < 16777216) (h : ∀ H', H' D = some (.lst (acc ++ [y])) → But D H H' → N H') : zPut1 D N y H :=
  ⟨acc, e, by rw [sz_eq]; exact l, h _ upd_same But.upd⟩
theorem tyes_ {R : Bool → Hp → Prop} (h : R true H) : tYes σ H R := h
/-- a comprehension, by an invariant -/
theorem lcW {J : It} {n : Nat} {G : Hp → Prop} {Y : Nat → Hp → V → Hp → Prop} {vs : List Nat} (w : Walk J n G Y) (Pv : Addr → Nat → Hp → Prop)
    (h0 : ∀ D H1, H D = none → Ex H H1 → H1 D = some (.lst []) → Pv D 0 H1) (hG : ∀ D i H', i ≤ n → Pv D i H' → G H')
    (hs : ∀ D i x H1 H2, H D = none → i < n → Pv D i H1 → Y i H1 x H2 → g x (wipe σ vs) H2 fun σ2 H3 => wipe σ2 vs = wipe σ vs ∧ tt σ2 H3 (zPut te D (Pv D (i + 1)) σ2))
    (hd : ∀ D H1, H D = none → Pv D n H1 → Q (.ref D) H1) : zLc g tt te vs σ Q J H := by
  intro D hD
  exact lc_it w (Pv D) (h0 D _ hD (Ex.new hD) upd_same) (hG D) (fun i x H1 H2 hi p y => hs D i x H1 H2 hD hi p y) (hd D · hD)
/-- each item gives the item of ys; what stood stands -/
structure Lm (H : Hp) (ys : List V) (D : Addr) (i : Nat) (H' : Hp) : Prop where
  ex : Ex H H'
  at_ : H' D = some (.lst (ys.take i))
theorem lm_put {H H' H4 : Hp} {ys : List V} {D : Addr} {i : Nat} {y : V} (hD : H D = none) (m : Lm H ys D i H') (e : Ex H' H4) (hy : ys[i]? = some y) (l : ys.length < 16777216) : zPut1 D (Lm H ys D (i + 1)) y H4 := by
  have hi : i < ys.length := (List.getElem?_eq_some_iff.mp hy).1
  refine zput1_ (e.at_ m.at_) (by rw [List.length_take]; omega) fun H5 h5 b => ⟨?_, ?_⟩
  · exact But.ex b (m.ex.trans e) hD
  · rw [h5, List.take_succ, hy]; rfl
/-- over a list, each item by itself -/
theorem lcL {xs ys : List V} {vs : List Nat} (hx : SqL K H a xs) (hn : ys.length = xs.length) (hz : ys.length < 16777216) (hw : ∀ x, wipe (List.set (wipe σ vs) j (some x)) vs = wipe σ vs)
    (hs : ∀ (D : Addr) (i : Nat) (x : V) H1, H D = none → xs[i]? = some x → Lm H ys D i H1 → te (List.set (wipe σ vs) j (some x)) H1 (zPut1 D (Lm H ys D (i + 1))))
    (hd : ∀ D H1, H D = none → Ex H H1 → H1 D = some (.lst ys) → Q (.ref D) H1) : zLc (gName j) tYes te vs σ Q (Itl K a) H := by
  refine lcW walk_list (Lm H ys) (fun D H1 hD e h => ⟨e, by rw [h]; simp⟩) (fun D i H' _ m => m.ex.seqL hx) ?_ ?_
  · rintro D i x H1 _ hD hi m ⟨rfl, hx⟩
    exact ⟨hw x, hs D i x _ hD hx m⟩
  · intro D H1 hD m
    refine hd D H1 hD m.ex ?_
    rw [m.at_, ← hn, List.take_length]
theorem lcT {l : List Nat} {ys : List V} {vs : List Nat} (hn : ys.length = l.length) (hz : ys.length < 16777216) (hw : ∀ x, wipe (List.set (wipe σ vs) j (some x)) vs = wipe σ vs)
    (hs : ∀ (D : Addr) (i : Nat) (c : Nat) H1, H D = none → l[i]? = some c → Lm H ys D i H1 → te (List.set (wipe σ vs) j (some (T [c]))) H1 (zPut1 D (Lm H ys D (i + 1))))
    (hd : ∀ D H1, H D = none → Ex H H1 → H1 D = some (.lst ys) → Q (.ref D) H1) : zLc (gName j) tYes te vs σ Q (Its ⟨l.toArray⟩) H := by
  have w : Walk (Its (⟨l.toArray⟩ : Str)) l.length (fun _ => True) (fun i H v H' => H' = H ∧ ∃ c, l[i]? = some c ∧ v = T [c]) := by
    have := walk_str (z := (⟨l.toArray⟩ : Str))
    simpa using this
  refine lcW w (Lm H ys) (fun D H1 hD e h => ⟨e, by rw [h]; simp⟩) (fun D i H' _ m => trivial) ?_ ?_
  · rintro D i x H1 _ hD hi m ⟨rfl, c, hc, rfl⟩
    exact ⟨hw _, hs D i c _ hD hc m⟩
  · intro D H1 hD m
    refine hd D H1 hD m.ex ?_
    rw [m.at_, ← hn, List.take_length]
end
end Z
/-! Z, part G: texts turned about, least and greatest, int of a sign; what is never reached. -/
namespace Z
open PySem PySem.Spec PyProof.Rows L2
section
variable {X : Cx}
/-! ### text[::-1] -/
theorem pick_rev (l : List Nat) : ((Builtin.Str.strSliceIndices none none (-1) l.length).filterMap (l.toArray[·]?)).toArray = l.reverse.toArray := by
  have e : Builtin.Str.strSliceIndices none none (-1) l.length = sliceRange ((l.length : Int) - 1) (-1) (-1) := rfl
  rw [e, PySem.W.krv_sliceRange, PySem.W.krv_range, List.filterMap_reverse]
  have := PySem.W.krv_all l.toArray
  rw [List.size_toArray] at this
  rw [this]
def zRevS (Q : VK) (x : V) (H : Hp) : Prop := ∃ l : List Nat, x = T l ∧ l.length ≤ sz ∧ Q (T l.reverse) H
def tRevS (te : TE) : TE := fun σ H Q => te σ H (zRevS Q)
theorem z_revS {e : Expr} {te : TE} {k : Nat} {p1 p2 p3 pos : Pos} (he : PE X e te) : PE X (.Subscript e (.Slice none none (some (.UnaryOp .USub (.Constant (.int 1) k p1) p2)) p3) pos) (tRevS te) := by
  refine ⟨fun pins s σ H Q I h => ?_⟩
  refine Subscript_ (thn (he.run pins s σ H _ I h) fun v s1 ⟨x, H1, I1, r1, q1⟩ => ?_)
  obtain ⟨l, rfl, hz, q⟩ := q1
  obtain ⟨t, rfl⟩ := r1
  have hst : PO X (some (.UnaryOp .USub (.Constant (.int 1) k p1) p2)) (tPart (tUn (rU fun i => .int (-i)) (tC (.int 1)))) := po_some (pe_un un_neg pe_int)
  refine wpAny_Slice (thn (po_none.run pins s1 σ H1 (fun o H2 => o = none ∧ H2 = H1) I1 ⟨rfl, rfl⟩) fun vl s2 ⟨l', H2, I2, pl, el, e2⟩ => ?_)
  subst el e2
  refine thn (po_none.run pins s2 σ H2 (fun o H3 => o = none ∧ H3 = H2) I2 ⟨rfl, rfl⟩) fun vu s3 ⟨u, H3, I3, pu, eu, e3⟩ => ?_
  subst eu e3
  refine thn (hst.run pins s3 σ H3 (fun o H4 => o = some (-1) ∧ H4 = H3) I3 ⟨1, rfl, -1, rfl, rfl, rfl⟩) fun vs s4 ⟨o, H4, I4, ps, eo, e4⟩ => ?_
  subst eo e4
  have I5 : Inv X pins σ H4 { s4 with heap := s4.heap.push { cls := .type "slice", data := .fields #[vl, vu, vs] } } := I4.kept (t' := s4.toks) fun b ob q => Heap.get?_push_of_some _ q
  obtain ⟨ol, rfl, hol⟩ := IsPart.raw pl
  obtain ⟨ou, rfl, hou⟩ := IsPart.raw pu
  obtain ⟨os, rfl, hos⟩ := IsPart.raw ps
  have h1 : ol = none := Option.map_eq_none_iff.mp hol
  have h2 : ou = none := Option.map_eq_none_iff.mp hou
  subst h1 h2
  obtain ⟨⟨j, tj⟩, rfl, rfl⟩ := Option.map_eq_some_iff.mp hos
  show wpAny (model X.prog X.w) X.A (subscriptTail e (.Slice none none (some (.UnaryOp .USub (.Constant (.int 1) k p1) p2)) p3) (.str ⟨l.toArray⟩ t) (.ref s4.heap.objs.size)) (EP X pins σ Q) X.xe _
  refine tail_any (ops := [.ref s4.heap.objs.size, .str ⟨l.toArray⟩ t]) (typeIs_str _ _ _) (F.slot_str_getitem.lookup) ?_ (by with_unfolding_all rfl)
  refine wpAny_getItem_str_slice (l := none) (u := none) (st := some (-1, tj)) ⟨_, Heap.get?_push_size _ rfl, rfl, rfl⟩ rfl ?_
  show (Made.str ⟨((Builtin.Str.strSliceIndices none none (-1) (⟨l.toArray⟩ : Str).length).filterMap ((⟨l.toArray⟩ : Str).cps[·]?)).toArray⟩).post (EP X pins σ Q) _
  have e : (Builtin.Str.strSliceIndices none none (-1) (⟨l.toArray⟩ : Str).length).filterMap ((⟨l.toArray⟩ : Str).cps[·]?) = l.reverse := by
    have := congrArg Array.toList (pick_rev l)
    rw [str_len]
    exact this
  rw [e]
  refine ⟨?_, T l.reverse, H4, I5.tok _, ⟨_, rfl⟩, q⟩
  rw [str_len, List.length_reverse, sz_eq]
  exact hz
/-! ### min, max of a list -/
theorem z_min1 (hc : X.calm = true) : CallR X (.builtin "min") (rMin X.K) := cr_min hc
theorem z_max1 (hc : X.calm = true) : CallR X (.builtin "max") (rMax X.K) := cr_max hc
/-! ### int(..) -/
def rIntZ : List V → Hp → VK → Prop := fun xs H Q => (∃ i, xs = [.int i] ∧ Q (.int i) H) ∨ (∃ k, xs = [.bl k] ∧ Q (.int (if k then 1 else 0)) H) ∨ ∃ c, xs = [T [c]] ∧ (c = 48 ∨ c = 49) ∧ Q (.int ((c : Int) - 48)) H
theorem z_int_of : CallR X (.type "int") rIntZ := by
  intro pins s σ H xs us Q I rs q
  rcases q with q | q | ⟨c, rfl, hc, q⟩
  · exact call_int1 pins s σ H xs us Q I rs (.inl q)
  · exact call_int1 pins s σ H xs us Q I rs (.inr q)
  · refine call_int_str pins s σ H _ us Q I rs ⟨_, _, rfl, ?_, ?_, q⟩
    · rcases hc with rfl | rfl
      · decide +kernel
      · decide +kernel
    · rw [str_len]; simp
end
section
variable {σ σ' : L2.St} {H : Hp} {D : Ends} {Q : VK} {K : PySem.W.Frag} {a b p : Addr} {te : TE} {xs ys : List V}
def zPar3 (i j l : Nat) (σ : L2.St) (Q : L2.St → Hp → Prop) (vs : List V) (H : Hp) : Prop := ∃ u v w, vs = [u, v, w] ∧ Q (List.set (List.set (List.set σ i (some u)) j (some v)) l (some w)) H
theorem seq_par3 {i j l : Nat} {tr : TA} {u : TS} (h : tr σ H (zPar3 i j l σ (u D))) : tSeq (tPar3 i j l tr) u D σ H := h
theorem par3_ {i j l : Nat} {tr : TA} (h : tr σ H (zPar3 i j l σ D.nx)) : tPar3 i j l tr D σ H := h
theorem zpar3_ {i j l : Nat} {Q : L2.St → Hp → Prop} {u v w : V} (h : Q (List.set (List.set (List.set σ i (some u)) j (some v)) l (some w)) H) : zPar3 i j l σ Q [u, v, w] H := ⟨u, v, w, rfl, h⟩
theorem revS_ (h : te σ H (zRevS Q)) : tRevS te σ H Q := h
theorem zrevS_ {l : List Nat} (e : l.length ≤ 16777216) (h : Q (T l.reverse) H) : zRevS Q (T l) H := ⟨l, rfl, e, h⟩
theorem min1_ {ns : List Int} (e : H a = some (.lst (ns.map V.int))) (l : 0 < ns.length) (h : ∀ m, m ∈ ns → (∀ y ∈ ns, m ≤ y) → Q (.int m) H) : rMin K [.ref a] H Q := ⟨a, ns, rfl, SqL.of e, l, fun m h1 h2 => h m h1 h2⟩
theorem max1_ {ns : List Int} (e : H a = some (.lst (ns.map V.int))) (l : 0 < ns.length) (h : ∀ m, m ∈ ns → (∀ y ∈ ns, y ≤ m) → Q (.int m) H) : rMax K [.ref a] H Q := ⟨a, ns, rfl, SqL.of e, l, fun m h1 h2 => h m h1 h2⟩
theorem intI_ {i : Int} (h : Q (.int i) H) : rIntZ [.int i] H Q := .inl ⟨i, rfl, h⟩
theorem intB_ {k : Bool} (h : Q (.int (if k then 1 else 0)) H) : rIntZ [.bl k] H Q := .inr (.inl ⟨k, rfl, h⟩)
theorem intS_ {c : Nat} (e : c = 48 ∨ c = 49) (h : Q (.int ((c : Int) - 48)) H) : rIntZ [T [c]] H Q := .inr (.inr ⟨c, rfl, e, h⟩)
theorem eqD_ {x y : V} {d e : PyData} (h1 : Dp K H x d) (h2 : Dp K H y e) (s1 : SeqAt.shaped d = true) (s2 : SeqAt.shaped e = true) (h : Q (.bl (PyData.eqv d e)) H) : rEqZ K x y H Q := .inr ⟨d, e, h1, h2, s1, s2, h⟩
theorem neD_ {x y : V} {d e : PyData} (h1 : Dp K H x d) (h2 : Dp K H y e) (s1 : SeqAt.shaped d = true) (s2 : SeqAt.shaped e = true) (h : Q (.bl (!PyData.eqv d e)) H) : rNeZ K x y H Q := .inr ⟨d, e, h1, h2, s1, s2, h⟩
end
/-! ### data that can be told can be compared -/
theorem canAll_of : ∀ {ds : List PyData}, (∀ d ∈ ds, PyData.canLay0 d = true) → PyData.canLayAll0 ds = true
  | [], _ => rfl
  | d :: ds, h => by
    rw [PyData.canLayAll0, h d List.mem_cons_self, canAll_of fun e he => h e (List.mem_cons_of_mem _ he)]
    rfl
theorem rp_can {d : PyData} {n k : Nat} (r : Rp d n k) : n ≤ 16777216 → PyData.canLay0 d = true := by
  induction r with
  | non => exact fun _ => rfl
  | bl b => exact fun _ => rfl
  | int h1 h2 => exact fun _ => rfl
  | str h =>
    rename_i l
    intro hn
    show (l.toArray.all (· < 0x110000)) = true
    rw [Array.all_eq_true_iff_forall_mem]
    intro c hc
    have := h c (by simpa using hc)
    exact decide_eq_true (by omega)
  | lst h ih =>
    rename_i ds n k
    intro hn
    show PyData.canLayAll0 ds = true
    refine canAll_of fun d hd => ih d hd ?_
    have h1 : 0 < ds.length := List.length_pos_of_mem hd
    have h2 : 1 * (n + 2) ≤ ds.length * (n + 2) := Nat.mul_le_mul_right _ h1
    omega
  | tup h ih =>
    rename_i ds n k
    intro hn
    show PyData.canLayAll0 ds = true
    refine canAll_of fun d hd => ih d hd ?_
    have h1 : 0 < ds.length := List.length_pos_of_mem hd
    have h2 : 1 * (n + 2) ≤ ds.length * (n + 2) := Nat.mul_le_mul_right _ h1
    omega
  | more h l g ih => exact fun hn => ih (by omega)
theorem rp_shaped {d : PyData} {n k : Nat} (r : Rp d n k) (hn : n ≤ 16777216) (hk : k ≤ 64) : SeqAt.shaped d = true := by
  unfold SeqAt.shaped
  rw [rp_can r hn, decide_eq_true (Nat.le_trans (rp_ok r).dp hk)]
  rfl
section
variable {H : Hp} {Q : VK} {K : PySem.W.Frag} {x y : V} {d : PyData} {n k : Nat}
theorem eqDD_ (h1 : Dp K H x d) (h2 : Dp K H y d) (r : Rp d n k) (hn : n ≤ 16777216) (hk : k ≤ 64) (h : Q (.bl true) H) : rEqZ K x y H Q :=
  eqD_ h1 h2 (rp_shaped r hn hk) (rp_shaped r hn hk) (by rw [SeqAt.eqv_refl d (rp_can r hn)]; exact h)
theorem neDD_ (h1 : Dp K H x d) (h2 : Dp K H y d) (r : Rp d n k) (hn : n ≤ 16777216) (hk : k ≤ 64) (h : Q (.bl false) H) : rNeZ K x y H Q :=
  neD_ h1 h2 (rp_shaped r hn hk) (rp_shaped r hn hk) (by rw [SeqAt.eqv_refl d (rp_can r hn)]; exact h)
end
end Z
/-! Z, part H: enumerate(text, start=k); a dict of the module; a local name that holds a def; isinstance. -/
namespace Z
open PySem PySem.Spec PyProof.Rows L2
section
variable {M : Model} {A : Around} {E : Value → Shared → Prop} {s : Shared} {env : Env}
theorem callWith_typeK {pos : Pos} {T : String} {first : List Value} {args : List (Bool × Sem Value)} {keywords : List (Option Str × Sem Value)} {Q : Value → Shared → Prop}
    (hplain : args.any (·.1) = false) (hkw : keywords.any (·.1.isNone) = false)
    (h : wpAny M A (evalArgs (.type T) true args keywords) (fun a s₁ => wpAny M A (call (.type T) (first ++ a.pos) a.kw) Q E s₁) E s) : wpAny M A (callWith pos (.type T) first args keywords) Q E s := by
  unfold callWith
  refine wpAny_bind (wpAny_holding (wpAny_mono h (fun a s₁ h₁ => wpAny_bind (wpAny_standAt ?_)) fun _ _ x => x))
  simp only [hplain, hkw, Bool.or_false]
  refine wpAny_bind (wpAny_pure ?_)
  exact wpAny_bind (wpAny_mono h₁ (fun r s₂ hr => wpAny_bind (wpAny_holding (wpAny_point (wpAny_pure hr)))) fun _ _ x => x)
end
def zEnK (R : It → Hp → Prop) (vs zs : List V) (H2 : Hp) : Prop := ∃ (x : List Nat) (k : Int), vs = [T x] ∧ zs = [.int k] ∧ -(2 ^ 63) ≤ k ∧ k < 2 ^ 63 ∧ R (Itn x k) H2
def iEnumKT (ta tk : TA) : TI := fun σ H R => ta σ H fun vs H1 => tk σ H1 (zEnK R vs)
theorem z_enumKS {X : Cx} {e e2 : Expr} {ta tk : TA} {p pos tpos kp : Pos} {elts : List Expr} {kk : Nat} (hg : Gl X "enumerate") (hm : X.mg "enumerate" = none) (ha : PA X [e] ta) (hk : PK X [⟨some "start", e2, kp⟩] tk)
    (hs : starEach [e] X.env = [(false, eval e X.env)] := by rfl) :
    PI X (.Tuple elts kk tpos) (.Call (.Name "enumerate" p) [e] [⟨some "start", e2, kp⟩] pos) (iEnumKT ta tk) := by
  constructor
  intro pins s σ H R I h
  have F0 : (backTo pos (starEach [e] X.env)).any (·.1) = false := by rw [hs]; rfl
  have go : ∀ (Q : Value → Shared → Prop), (∀ x t k u H2 s2, Inv X pins σ H2 s2 → -(2 ^ 63) ≤ k → k < 2 ^ 63 → R (Itn x k) H2 → wpAny (model X.prog X.w) X.A (call (.type "enumerate") [.str ⟨x.toArray⟩ t] [(Str.ofString "start", .int k u)]) Q X.xe s2) →
      wpAny (model X.prog X.w) X.A (callWith pos (.type "enumerate") [] (backTo pos (starEach [e] X.env)) (backToKw pos (keywordEach [⟨some "start", e2, kp⟩] X.env))) Q X.xe s := by
    intro Q q
    refine callWith_typeK F0 rfl ?_
    refine evalArgs_kw2 rfl (thn (ha.run pos pins s σ H _ I h) fun us s1 ⟨vs, H1, I1, r1, q1⟩ => thn (hk.run pos pins s1 σ H1 _ I1 q1) fun ws s2 ⟨zs, H2, I2, r2, q2⟩ => ?_) hs
    obtain ⟨x, k, rfl, rfl, k0, k1, q3⟩ := q2
    obtain ⟨u, rfl, t, rfl⟩ := vals1 r1
    obtain ⟨u2, rfl, t2, rfl⟩ := vals1 r2
    exact q x t k t2 H2 s2 I2 k0 k1 q3
  refine wpAny_Call_Name_kw (ld_blt I hg hm boot_enumerate ?_)
  refine go _ fun x t k u H2 s2 I2 k0 k1 q => ?_
  refine enum_begins_start (begins_text ⟨x.toArray⟩ t) trivial k0 k1 fun h' he hit hsz hk' => wpAny_pyIter_enum he ?_
  have I3 : Inv X pins σ H2 { s2 with heap := h' } := I2.kept (t' := s2.toks) hk'
  have e0 : k + ((0 : Nat) : Int) = k := by omega
  refine ⟨s2.heap.objs.size + 1, [s2.heap.objs.size + 1, s2.heap.objs.size], _, _, H2, rfl, I3, turn_enumT x t k (s2.heap.objs.size + 1) s2.heap.objs.size (Nat.succ_ne_self _), ⟨⟨.none, by rw [e0]; exact he⟩, ⟨_, hit, rfl, rfl⟩⟩, ?_, q⟩
  intro b hb
  have le : s2.heap.objs.size ≤ b := by
    rcases List.mem_cons.mp hb with z | z
    · rw [z]; exact Nat.le_succ _
    · rw [List.mem_singleton.mp z]; exact Nat.le_refl _
  exact I2.fpOk le (I2.hok.fresh le)
/-! ### a dict of the module with texts for keys -/
section
variable {X : Cx}
/-- at a: a written dict; what stands at a text, if anything -/
def KD (K : PySem.W.Frag) (w : World) (a : Addr) (z : Str) (r : Option Value) : Prop := ∃ es n, KDict K w a es n ∧ PySem.W.nsIn K a z = some r
def rNiKD (K : PySem.W.Frag) (w : World) : R2 := fun x y H Q => ∃ (a : Addr) (z : List Nat) (r : Option Value), x = T z ∧ y = .ref a ∧ KD K w a ⟨z.toArray⟩ r ∧ Q (.bl (!r.isSome)) H
theorem z_niKD : OpR X (compareOp .NotIn) (rNiKD X.K X.w) := by
  intro pins s σ H x y v u Q I rx ry h
  obtain ⟨a, z, r, rfl, rfl, ⟨es, n, D, e⟩, q⟩ := h
  exact op_notIn_kd D pins s σ H _ _ v u Q I rx ry ⟨_, r, rfl, rfl, e, q⟩
def rInKD (K : PySem.W.Frag) (w : World) : R2 := fun x y H Q => ∃ (a : Addr) (z : List Nat) (r : Option Value), x = T z ∧ y = .ref a ∧ KD K w a ⟨z.toArray⟩ r ∧ Q (.bl r.isSome) H
theorem z_inKD : OpR X (compareOp .In) (rInKD X.K X.w) := by
  intro pins s σ H x y v u Q I rx ry h
  obtain ⟨a, z, r, rfl, rfl, ⟨es, n, D, e⟩, q⟩ := h
  exact op_in_kd D pins s σ H _ _ v u Q I rx ry ⟨_, r, rfl, rfl, e, q⟩
def rIxKD (K : PySem.W.Frag) (w : World) : R2 := fun x y H Q => ∃ (a : Addr) (z : List Nat) (u0 : Value) (v0 : V), x = .ref a ∧ y = T z ∧ KD K w a ⟨z.toArray⟩ (some u0) ∧ RelV v0 u0 ∧ Q v0 H
theorem z_ixKD : IxR X (rIxKD X.K X.w) := by
  intro value slice pins s σ H x y v u Q I rx ry h hs
  obtain ⟨a, z, u0, v0, rfl, rfl, ⟨es, n, D, e⟩, r, q⟩ := h
  exact ix_kdict value slice pins s σ H _ _ v u Q I rx ry ⟨_, _, v0, rfl, rfl, ⟨es, n, u0, D.at_, D.lit, e, r⟩, q⟩ hs
end
section
variable {σ : L2.St} {H : Hp} {Q : VK} {K : PySem.W.Frag} {w : World} {a : Addr}
theorem niKD_ {z : List Nat} {r : Option Value} (e : KD K w a ⟨z.toArray⟩ r) (h : Q (.bl (!r.isSome)) H) : rNiKD K w (T z) (.ref a) H Q := ⟨a, z, r, rfl, rfl, e, h⟩
theorem inKD_ {z : List Nat} {r : Option Value} (e : KD K w a ⟨z.toArray⟩ r) (h : Q (.bl r.isSome) H) : rInKD K w (T z) (.ref a) H Q := ⟨a, z, r, rfl, rfl, e, h⟩
theorem ixKD_ {z : List Nat} {u0 : Value} {v0 : V} (e : KD K w a ⟨z.toArray⟩ (some u0)) (r : RelV v0 u0) (h : Q v0 H) : rIxKD K w (.ref a) (T z) H Q := ⟨a, z, u0, v0, rfl, rfl, e, r, h⟩
theorem ientK_ {ta tk : TA} {R : It → Hp → Prop} (h : ta σ H fun vs H1 => tk σ H1 (zEnK R vs)) : iEnumKT ta tk σ H R := h
theorem zenK_ {R : It → Hp → Prop} {l : List Nat} {k : Int} (e1 : -9223372036854775808 ≤ k) (e2 : k < 9223372036854775808) (h : R (Itn l k) H) : zEnK R [T l] [.int k] H := ⟨l, k, rfl, rfl, e1, e2, h⟩
end
/-! ### isinstance -/
section
variable {X : Cx} {H : Hp} {Q : VK} {K : PySem.W.Frag} {x : V}
def rIsZ (K : PySem.W.Frag) : List V → Hp → VK → Prop := fun xs H Q => rIsi K xs H Q ∨ rIsiT K xs H Q
theorem z_isi : CallR X (.builtin "isinstance") (rIsZ X.K) := call_isi.or call_isiT
theorem isB_ {a b : String} {r : Bool} (t : TyX K H x (.type a)) (e : kitB a b = some r) (h : Q (.bl r) H) : rIsZ K [x, .ty b] H Q := .inl ⟨x, .ty b, .type a, .type b, r, rfl, .ty _, t, kit_ty e, h⟩
theorem isSS_ {l : List Nat} (h : Q (.bl true) H) : rIsZ K [T l, .ty "str"] H Q := isB_ (a := "str") (.base (.str _)) (by decide +kernel) h
end
section
variable {H : Hp} {Q : VK}
theorem imulI {n m : Int} (h1 : -18446744073709551616 < n) (h2 : n < 18446744073709551616) (h : Q (.int (n * m)) H) : pMulZ (.int n) (.int m) H Q := ⟨n, m, rfl, rfl, .inl ⟨h1, h2⟩, h⟩
theorem idivI {n m : Int} (e1 : 0 < m) (e2 : m < 1073741824) (h : Q (.int (n / m)) H) : pDivZ (.int n) (.int m) H Q := ⟨n, m, rfl, rfl, ⟨e1, e2⟩, h⟩
end
section
variable {σ : L2.St} {H : Hp} {tu : TT} {Q : Bool → Hp → Prop} {q : Prop} [Decidable q]
theorem zor_keep (hk : Q true H) (h2 : ¬ q → Q true H → tu σ H Q) : zOr tu σ Q (decide q) H := zor_d (fun _ => hk) fun n => h2 n hk
end
/-! ### a call of a local name that holds a def -/
structure HeldG (P : Program) (w : World) (K : PySem.W.Frag) (mg : Str → Option Value) (base : Heap) (k : Nat) (f : Addr) (sp : Sp) : Prop where
  ex : ∃ (fd : FuncData) (ps : List Str), FnG P w K mg base k f fd ps sp ∧ PySem.W.keepIn K (.ref f) = true ∧ Binds K fd ps []
/-- the slot holds a def whose promise S tells -/
def tCallV (i : Nat) (S : Addr → Sp → Prop) (E : L2.St → XK) (t : TA) : TE := fun σ H Q => ∃ f sp, σ[i]? = some (some (.ref f)) ∧ S f sp ∧ t σ H fun vs H1 => sp vs H1 Q (E σ)
section
variable {X : Cx} {k i : Nat} {S : Addr → Sp → Prop} {x : Str} {p pos : Pos} {e : Expr} {es : List Expr} {t : TA} {W : WX}
theorem pe_callV (A : ∀ f sp, S f sp → HeldG X.prog X.w X.K X.mg X.base k f sp) (room : Room k X.A) (noG : X.A.guards = some []) (hN : X.N[i]? = some x) (hv : Vis X.env.scope x)
    (tk : ∀ pins σ H s, Inv X pins σ H s → ∀ e s', L2N.CX X.prog X.w X.stack H s (fun c d H' => W c d σ H') e s' → X.xe e s') (ha : PA X (e :: es) t)
    (hdb : (x == ("__debug__" : Str)) = false := by decide) (hcd : (x == ("__classdict__" : Str)) = false := by decide)
    (he : starEach (e :: es) X.env = (false, eval e X.env) :: starEach es X.env := by rfl) (hpl : (backTo pos (starEach es X.env)).any (·.1) = false := by rfl) :
    PE X (.Call (.Name x p) (e :: es) [] pos) (tCallV i S (fun σ c d H' => W c d σ H') t) := by
  refine ⟨fun pins s σ H Q I h => ?_⟩
  obtain ⟨f, sp, hs, hS, ht⟩ := h
  obtain ⟨fd, ps, F, hk, hb⟩ := (A f sp hS).ex
  refine wpAny_Call_Name_kw (thn ((pe_var (pos := p) hN hv hdb hcd).run pins s σ H (fun v H1 => v = .ref f ∧ H1 = H) I ⟨.ref f, hs, rfl, rfl⟩) fun u s1 ⟨v, H1, I1, r1, q1⟩ => ?_)
  obtain ⟨rfl, rfl⟩ := q1
  cases r1
  refine PySem.W.callWith_K (h₀ := X.base) I.ok.mod.kin hk (thn (ha.run pos pins s1 σ _ _ I1 ht) fun us s2 ⟨vs, H2, I2, r, q⟩ => ⟨I2.kIn, ?_⟩) he hpl
  exact run_g F room noG hb .nil (tk _ _ _ _ I2) I2 r (by rw [List.append_nil]; exact q)
end
section
variable {σ : L2.St} {H : Hp} {S : Addr → Sp → Prop} {Q : VK} {E : L2.St → XK} {XE : XK} {t : TA} {i : Nat} {f : Addr} {vs : List V}
theorem callV_ {sp : Sp} (e : σ[i]? = some (some (.ref f))) (e2 : S f sp) (h : t σ H fun vs H1 => sp vs H1 Q (E σ)) : tCallV i S E t σ H Q := ⟨f, sp, e, e2, h⟩
end
end Z
/-! Z, part I: instances: fields, methods, making; calls with keywords and defaults. -/
namespace Z
open PySem PySem.Spec PyProof.Rows L2
/-! ### calls -/
/-- a def under a global name, called with n values and keywords named ks -/
structure DefK (P : Program) (w : World) (K : PySem.W.Frag) (mg : Str → Option Value) (base : Heap) (k : Nat) (x : Str) (n : Nat) (ks : List Str) (gV : List V → List V → List V) (sp : Sp) : Prop where
  ex : ∃ (f : Addr) (fd : FuncData) (ps : List Str) (g : List Value → List Value → List Value), FnG P w K mg base k f fd ps sp ∧ mg x = some (.ref f) ∧
    PySem.W.keepIn K (.ref f) = true ∧ KBn K fd ps n ks g gV
/-- a method of a class, with n values (self among them) and keywords -/
structure MthK (P : Program) (w : World) (K : PySem.W.Frag) (mg : Str → Option Value) (base : Heap) (k : Nat) (C : Addr) (m : Str) (n : Nat) (ks : List Str) (gV : List V → List V → List V) (sp : Sp) : Prop where
  cls : Cls K C
  ex : ∃ (f : Addr) (fd : FuncData) (ps : List Str) (g : List Value → List Value → List Value), FnG P w K mg base k f fd ps sp ∧ Meth K C m f ∧ KBn K fd ps n ks g gV
/-- a class that is made by its __init__: n values behind self, keywords ks -/
structure MkK (P : Program) (w : World) (K : PySem.W.Frag) (mg : Str → Option Value) (base : Heap) (k : Nat) (x : Str) (C : Addr) (n : Nat) (ks : List Str) (gV : List V → List V → List V) (sp : Sp) : Prop where
  ex : ∃ (f : Addr) (fd : FuncData) (ps : List Str) (g : List Value → List Value → List Value), FnG P w K mg base k f fd ps sp ∧ mg x = some (.ref C) ∧ Mk K C f ∧ KBn K fd ps (n + 1) ks g gV
section
variable {P : Program} {w : World} {K : PySem.W.Frag} {mg : Str → Option Value} {base : Heap}
theorem DefK.mono {j k n : Nat} {x : Str} {ks : List Str} {gV : List V → List V → List V} {sp : Sp} (D : DefK P w K mg base j x n ks gV sp) (h : j ≤ k) : DefK P w K mg base k x n ks gV sp := by
  obtain ⟨f, fd, ps, g, F, r⟩ := D.ex
  exact ⟨f, fd, ps, g, F.mono h, r⟩
theorem MthK.mono {j k n : Nat} {C : Addr} {x : Str} {ks : List Str} {gV : List V → List V → List V} {sp : Sp} (D : MthK P w K mg base j C x n ks gV sp) (h : j ≤ k) : MthK P w K mg base k C x n ks gV sp := by
  obtain ⟨f, fd, ps, g, F, r⟩ := D.ex
  exact ⟨D.cls, f, fd, ps, g, F.mono h, r⟩
theorem MkK.mono {j k n : Nat} {C : Addr} {x : Str} {ks : List Str} {gV : List V → List V → List V} {sp : Sp} (D : MkK P w K mg base j x C n ks gV sp) (h : j ≤ k) : MkK P w K mg base k x C n ks gV sp := by
  obtain ⟨f, fd, ps, g, F, r⟩ := D.ex
  exact ⟨f, fd, ps, g, F.mono h, r⟩
end
section
variable {X : Cx} {k n : Nat} {f C : Addr} {fd : FuncData} {ps ks : List Str} {sp : Sp} {dvs : List V} {ds : List Value} {E : XK} {g : List Value → List Value → List Value} {gV : List V → List V → List V}
theorem run_gk {pins : List (Addr × Obj)} {σ : L2.St} {H : Hp} {s : Shared} {Q : VK} {us ws : List Value} {vs zs : List V}
    (F : FnG X.prog X.w X.K X.mg X.base k f fd ps sp) (room : Room k X.A) (noG : X.A.guards = some []) (hb : KBn X.K fd ps n ks g gV)
    (hx : ∀ e s', L2N.CX X.prog X.w X.stack H s E e s' → X.xe e s') (I : Inv X pins σ H s) (r : Vals vs us) (rz : Vals zs ws) (l1 : vs.length = n) (l2 : zs.length = ks.length) (want : sp (gV vs zs) H Q E) :
    wpAny (model X.prog X.w) X.A (call (.ref f) us (ks.zip ws)) (EP X pins σ Q) X.xe s := by
  have r2 := hb.rel r rz
  have ran := F.run X.A X.stack s H ⟨us, ks.zip ws⟩ (g us ws) (gV vs zs) Q E room noG I.env0 (hb.to s us ws I.kIn (r.length.symm.trans l1) (rz.length.symm.trans l2)) r2 want
  refine wpAny_call (codeAny_mono ran ?_)
  intro r s' hr
  match r, hr with
  | .error e, hr => exact hx e s' hr
  | .ok (.ret u), hr => exact I.after hr
  | .ok .next, hr => exact False.elim hr
  | .ok .brk, hr => exact False.elim hr
  | .ok .cont, hr => exact False.elim hr
theorem make_guards {A : Around} {C : Addr} {us : List Value} {ws : List (Str × Value)} (h : A.guards = some []) : (A.under (.builtin "type.__call__" ⟨.ref C :: us, ws⟩)).guards = some [] := by
  show pushGuards (Code.guards (.builtin "type.__call__" ⟨.ref C :: us, ws⟩)) A.guards = some []
  rw [show Code.guards (.builtin "type.__call__" ⟨.ref C :: us, ws⟩) = [] from by simp [Code.guards, Code.isGuard]; decide +kernel]
  exact h
theorem run_gmake {pins : List (Addr × Obj)} {σ : L2.St} {H : Hp} {s : Shared} {Q : VK} {us ws : List Value} {vs zs : List V} (M : Mk X.K C f)
    (F : FnG X.prog X.w X.K X.mg X.base k f fd ps sp) (room : Room (k + 1) X.A) (noG : X.A.guards = some []) (hb : KBn X.K fd ps (n + 1) ks g gV)
    (hx : ∀ H s, Inv X pins σ H s → ∀ e s', L2N.CX X.prog X.w X.stack H s E e s' → X.xe e s') (I : Inv X pins σ H s) (r : Vals vs us) (rz : Vals zs ws) (l1 : vs.length = n) (l2 : zs.length = ks.length)
    (h : ∀ x dx, H x = none → H dx = none → dx ≠ x → sp (gV (.ref x :: vs) zs) (upd (upd H dx (.own x)) x (.ins C dx [])) (fun v H2 => v = .non ∧ Q (.ref x) H2) E) :
    wpAny (model X.prog X.w) X.A (call (.ref C) us (ks.zip ws)) (EP X pins σ Q) X.xe s := by
  have hq := h (s.heap.objs.size + 1) s.heap.objs.size (I.hok.fresh (Nat.le_succ _)) (I.hok.fresh (Nat.le_refl _)) (Nat.ne_of_lt (Nat.lt_succ_self _))
  have I2 := Inv.made (C := C) I
  have r1 : Vals (V.ref (s.heap.objs.size + 1) :: vs) (Value.ref (s.heap.objs.size + 1) :: us) := .cons rfl r
  have r2 := hb.rel r1 rz
  have e1 : (Value.ref (s.heap.objs.size + 1) :: us).length = n + 1 := r1.length.symm.trans (congrArg Nat.succ l1)
  have e2 : ws.length = ks.length := rz.length.symm.trans l2
  refine wpAny_call (make_map (f := f) I.kIn M.makes M.init (beq_iff_eq.mp M.fn) (codeAny_mono (F.run _ X.stack _ _ ⟨Value.ref (s.heap.objs.size + 1) :: us, ks.zip ws⟩ (g (Value.ref (s.heap.objs.size + 1) :: us) ws) _ _ E (room.make C us (ks.zip ws))
    (make_guards noG) (I2.env0.make C us (ks.zip ws)) (hb.to _ (Value.ref (s.heap.objs.size + 1) :: us) ws I2.kIn e1 e2) r2 hq) fun r s' hq' => ?_))
  match r, hq' with
  | .error e, hq' => exact hx _ _ I2 e s' hq'
  | .ok (.ret u), hq' =>
    obtain ⟨v, H', I3, rv, ev, q3⟩ := I2.after hq'
    subst ev
    exact ⟨rv, ⟨V.ref (s.heap.objs.size + 1), H', I3, rfl, q3⟩⟩
  | .ok .next, hq' => exact False.elim hq'
  | .ok .brk, hq' => exact False.elim hq'
  | .ok .cont, hq' => exact False.elim hq'
end
/-- f(e, .., k = v, ..) -/
def tCK (sp : Sp) (gV : List V → List V → List V) (E : L2.St → XK) (n m : Nat) (t tk : TA) : TE := fun σ H Q => t σ H fun vs H1 => tk σ H1 fun zs H2 => vs.length = n ∧ zs.length = m ∧ sp (gV vs zs) H2 Q (E σ)
def zMeth (C : Addr) (m : Str) (t : TA) (q : V → List V → Hp → Prop) (σ : L2.St) (x : V) (H : Hp) : Prop := ∃ a dx fs, x = .ref a ∧ H a = some (.ins C dx fs) ∧ fs.lookup m = none ∧ t σ H fun vs H2 => q x vs H2
/-- o.m(e, .., k = v, ..) -/
def tMK (C : Addr) (m : Str) (sp : Sp) (gV : List V → List V → List V) (E : L2.St → XK) (n l : Nat) (ta : TE) (t tk : TA) : TE := fun σ H Q => ta σ H (zMeth C m t (fun x vs H2 => tk σ H2 fun zs H3 => vs.length + 1 = n ∧ zs.length = l ∧ sp (gV (x :: vs) zs) H3 Q (E σ)) σ)
def zMake (C : Addr) (q : V → Hp → VK → Prop) (H : Hp) (Q : VK) : Prop := ∀ x dx, H x = none → H dx = none → dx ≠ x → q (.ref x) (upd (upd H dx (.own x)) x (.ins C dx [])) (fun v H2 => v = .non ∧ Q (.ref x) H2)
/-- C(e, .., k = v, ..) -/
def tKK (C : Addr) (sp : Sp) (gV : List V → List V → List V) (E : L2.St → XK) (n m : Nat) (t tk : TA) : TE := fun σ H Q => t σ H fun vs H1 => tk σ H1 fun zs H2 => vs.length = n ∧ zs.length = m ∧
  zMake C (fun x H3 Q3 => sp (gV (x :: vs) zs) H3 Q3 (E σ)) H2 Q
section
variable {X : Cx} {k n : Nat} {sp : Sp} {ks : List Str} {gV : List V → List V → List V} {x m : Str} {C : Addr} {p pos apos : Pos} {e o : Expr} {es : List Expr} {kws : List Keyword} {ta : TE} {t tk : TA} {W : WX}
/-- what a call lets out is taken around -/
abbrev TK (X : Cx) (W : WX) : Prop := ∀ pins σ H s, Inv X pins σ H s → ∀ e s', L2N.CX X.prog X.w X.stack H s (fun c d H' => W c d σ H') e s' → X.xe e s'
theorem pe_fk (D : DefK X.prog X.w X.K X.mg X.base k x n ks gV sp) (room : Room k X.A) (noG : X.A.guards = some []) (hg : Gl X x) (tw : TK X W)
    (ha : PA X (e :: es) t) (hkw : PK X kws tk) (hall : (backToKw pos (keywordEach kws X.env)).all (·.1.isSome) = true := by rfl) (hks : (backToKw pos (keywordEach kws X.env)).filterMap (·.1) = ks := by rfl)
    (hdb : (x == ("__debug__" : Str)) = false := by decide) (he : starEach (e :: es) X.env = (false, eval e X.env) :: starEach es X.env := by rfl)
    (hpl : ((backTo pos (starEach (e :: es) X.env)).any (·.1) || (backToKw pos (keywordEach kws X.env)).any (·.1.isNone)) = false := by rfl) :
    PE X (.Call (.Name x p) (e :: es) kws pos) (tCK sp gV (fun σ c d H' => W c d σ H') n ks.length t tk) := by
  obtain ⟨f, fd, ps, g, F, hm, hk, hb⟩ := D.ex
  refine ⟨fun pins s σ H Q I h => ?_⟩
  refine wpAny_Call_Name_kw (ld_glob I hg hm ?_ hdb)
  refine PySem.W.callWith_KW (h₀ := X.base) I.ok.mod.kin hk hall (thn (ha.run pos pins s σ H _ I h) fun us s1 ⟨vs, H1, I1, r, q⟩ => ?_) hpl he
  refine thn (hkw.run pos pins s1 σ H1 _ I1 q) fun ws s2 ⟨zs, H2, I2, rz, l1, l2, q2⟩ => ⟨I2.kIn, ?_⟩
  rw [hks]
  exact run_gk F room noG hb (tw _ _ _ _ I2) I2 r rz l1 l2 q2
/-- a def called without keywords -/
theorem pe_fk1 (D : DefK X.prog X.w X.K X.mg X.base k x n [] gV sp) (room : Room k X.A) (noG : X.A.guards = some []) (hg : Gl X x) (tw : TK X W)
    (ha : PA X (e :: es) t) (hdb : (x == ("__debug__" : Str)) = false := by decide) (he : starEach (e :: es) X.env = (false, eval e X.env) :: starEach es X.env := by rfl)
    (hpl : (backTo pos (starEach es X.env)).any (·.1) = false := by rfl) :
    PE X (.Call (.Name x p) (e :: es) [] pos) (tCK sp gV (fun σ c d H' => W c d σ H') n 0 t tNil) := by
  obtain ⟨f, fd, ps, g, F, hm, hk, hb⟩ := D.ex
  refine ⟨fun pins s σ H Q I h => ?_⟩
  refine wpAny_Call_Name_kw (ld_glob I hg hm ?_ hdb)
  refine PySem.W.callWith_K (h₀ := X.base) I.ok.mod.kin hk (thn (ha.run pos pins s σ H _ I h) ?_) he hpl
  rintro us s1 ⟨vs, H1, I1, rel, l1, l2, q2⟩
  exact ⟨I1.kIn, run_gk (ws := []) F room noG hb (tw _ _ _ _ I1) I1 rel .nil l1 rfl q2⟩
theorem pe_mk1 {pl : Sem Bool} (he : PE X o ta) (D : MthK X.prog X.w X.K X.mg X.base k C m n [] gV sp) (room : Room k X.A) (noG : X.A.guards = some []) (tw : TK X W) (ha : PA X (e :: es) t)
    (hst : starEach (e :: es) X.env = (false, eval e X.env) :: starEach es X.env := by rfl) (hpl : (backTo pos (starEach es X.env)).any (·.1) = false := by rfl)
    (ht : eval (.Call (.Attribute o m apos) (e :: es) [] pos) X.env = (do
      let ov ← eval o X.env
      standAt apos.atName
      let (f, first) ← holding [ov] (getMethod ov m pl)
      callWith pos f first (backTo pos (starEach (e :: es) X.env)) (backToKw pos (keywordEach [] X.env))) := by rfl) :
    PE X (.Call (.Attribute o m apos) (e :: es) [] pos) (tMK C m sp gV (fun σ c d H' => W c d σ H') n 0 ta t tNil) := by
  obtain ⟨f, fd, ps, g, F, hm, hb⟩ := D.ex
  refine ⟨fun pins s σ H Q I h => ?_⟩
  refine PySem.W.methodCall_KW (pl := pl) (thn (he.run pins s σ H _ I h) fun u s1 ⟨x, H1, I1, rx, a, dx, fs, ex, ea, l, q⟩ => ?_) ht
  subst ex
  obtain rfl : u = Value.ref a := rx
  refine getmeth_ok I1 ea D.cls hm l ?_
  refine PySem.W.callWith_K (first := [.ref a]) (h₀ := X.base) I.ok.mod.kin hm.kp (thn (ha.run pos pins s1 σ H1 _ I1 q) fun us s2 ⟨vs, H2, I2, r, l1, l2, q2⟩ => ⟨I2.kIn, ?_⟩) hst hpl
  exact run_gk (us := .ref a :: us) (vs := .ref a :: vs) (ws := []) F room noG hb (tw _ _ _ _ I2) I2 (.cons rfl r) .nil l1 rfl q2
theorem pe_mk0 {pl : Sem Bool} (he : PE X o ta) (D : MthK X.prog X.w X.K X.mg X.base k C m n [] gV sp) (room : Room k X.A) (noG : X.A.guards = some []) (tw : TK X W)
    (ht : eval (.Call (.Attribute o m apos) [] [] pos) X.env = (do
      let ov ← eval o X.env
      standAt apos.atName
      let (f, first) ← holding [ov] (getMethod ov m pl)
      callWith pos f first (backTo pos (starEach [] X.env)) (backToKw pos (keywordEach [] X.env))) := by rfl) :
    PE X (.Call (.Attribute o m apos) [] [] pos) (tMK C m sp gV (fun σ c d H' => W c d σ H') n 0 ta tNil tNil) := by
  obtain ⟨f, fd, ps, g, F, hm, hb⟩ := D.ex
  refine ⟨fun pins s σ H Q I h => ?_⟩
  refine PySem.W.methodCall_KW (pl := pl) (thn (he.run pins s σ H _ I h) fun u s1 ⟨x, H1, I1, rx, a, dx, fs, ex, ea, l, q⟩ => ?_) ht
  subst ex
  obtain rfl : u = Value.ref a := rx
  refine getmeth_ok I1 ea D.cls hm l ?_
  obtain ⟨l1, l2, q2⟩ := q
  exact PySem.W.callWith_K0 (first := [.ref a]) I1.kIn hm.kp (run_gk (us := [.ref a]) (vs := [.ref a]) (ws := []) F room noG hb (tw _ _ _ _ I1) I1 (.cons rfl .nil) .nil l1 rfl q2)
theorem pe_kk (D : MkK X.prog X.w X.K X.mg X.base k x C n ks gV sp) (room : Room (k + 1) X.A) (noG : X.A.guards = some []) (hg : Gl X x) (tw : TK X W)
    (ha : PA X (e :: es) t) (hkw : PK X kws tk) (hall : (backToKw pos (keywordEach kws X.env)).all (·.1.isSome) = true := by rfl) (hks : (backToKw pos (keywordEach kws X.env)).filterMap (·.1) = ks := by rfl)
    (hdb : (x == ("__debug__" : Str)) = false := by decide) (he : starEach (e :: es) X.env = (false, eval e X.env) :: starEach es X.env := by rfl)
    (hpl : ((backTo pos (starEach (e :: es) X.env)).any (·.1) || (backToKw pos (keywordEach kws X.env)).any (·.1.isNone)) = false := by rfl) :
    PE X (.Call (.Name x p) (e :: es) kws pos) (tKK C sp gV (fun σ c d H' => W c d σ H') n ks.length t tk) := by
  obtain ⟨f, fd, ps, g, F, hm, M, hb⟩ := D.ex
  refine ⟨fun pins s σ H Q I h => ?_⟩
  refine wpAny_Call_Name_kw (ld_glob I hg hm ?_ hdb)
  refine PySem.W.callWith_KW (h₀ := X.base) I.ok.mod.kin M.kp hall (thn (ha.run pos pins s σ H _ I h) fun us s1 ⟨vs, H1, I1, r, q⟩ => ?_) hpl he
  refine thn (hkw.run pos pins s1 σ H1 _ I1 q) fun ws s2 ⟨zs, H2, I2, rz, l1, l2, q2⟩ => ⟨I2.kIn, ?_⟩
  rw [hks]
  exact run_gmake M F room noG hb (fun H s I => tw _ _ _ _ I) I2 r rz l1 l2 q2
theorem pe_kk1 (D : MkK X.prog X.w X.K X.mg X.base k x C n [] gV sp) (room : Room (k + 1) X.A) (noG : X.A.guards = some []) (hg : Gl X x) (tw : TK X W)
    (ha : PA X (e :: es) t) (hdb : (x == ("__debug__" : Str)) = false := by decide) (he : starEach (e :: es) X.env = (false, eval e X.env) :: starEach es X.env := by rfl)
    (hpl : (backTo pos (starEach es X.env)).any (·.1) = false := by rfl) :
    PE X (.Call (.Name x p) (e :: es) [] pos) (tKK C sp gV (fun σ c d H' => W c d σ H') n 0 t tNil) := by
  obtain ⟨f, fd, ps, g, F, hm, M, hb⟩ := D.ex
  refine ⟨fun pins s σ H Q I h => ?_⟩
  refine wpAny_Call_Name_kw (ld_glob I hg hm ?_ hdb)
  refine PySem.W.callWith_K (h₀ := X.base) I.ok.mod.kin M.kp (thn (ha.run pos pins s σ H _ I h) ?_) he hpl
  rintro us s1 ⟨vs, H1, I1, rel, l1, l2, q2⟩
  exact ⟨I1.kIn, run_gmake (ws := []) M F room noG hb (fun H s I => tw _ _ _ _ I) I1 rel .nil l1 rfl q2⟩
theorem pe_kk0 (D : MkK X.prog X.w X.K X.mg X.base k x C n [] gV sp) (room : Room (k + 1) X.A) (noG : X.A.guards = some []) (hg : Gl X x) (tw : TK X W)
    (hdb : (x == ("__debug__" : Str)) = false := by decide) :
    PE X (.Call (.Name x p) [] [] pos) (tKK C sp gV (fun σ c d H' => W c d σ H') n 0 tNil tNil) := by
  obtain ⟨f, fd, ps, g, F, hm, M, hb⟩ := D.ex
  refine ⟨fun pins s σ H Q I h => ?_⟩
  refine wpAny_Call_Name_kw (ld_glob I hg hm ?_ hdb)
  obtain ⟨l1, l2, q2⟩ := h
  exact PySem.W.callWith_K0 I.kIn M.kp (run_gmake (us := []) (vs := []) (ws := []) M F room noG hb (fun H s I => tw _ _ _ _ I) I .nil .nil l1 rfl q2)
end
/-! ### steps -/
section
variable {σ : L2.St} {H : Hp} {Q : VK} {K : PySem.W.Frag} {D : Ends} {a b C dx : Addr} {f : Str} {fs : List (Str × V)} {v y : V} {ta tv te : TE} {t tk tr : TA} {u : TS} {xs ys : List V}
theorem extend_ (e : H a = some (.lst xs)) (e2 : H b = some (.lst ys)) (l : xs.length + ys.length ≤ 16777216) (h : ∀ H', H' a = some (.lst (xs ++ ys)) → But a H H' → Q .non H') : rExtend (.ref a) [.ref b] H Q :=
  ⟨a, b, xs, ys, rfl, rfl, e, e2, by rw [sz_eq]; exact l, h _ upd_same But.upd⟩
def zFld (K : PySem.W.Frag) (f : Str) (Q : VK) (x : V) (H : Hp) : Prop := ∃ a C dx fs v, x = .ref a ∧ H a = some (.ins C dx fs) ∧ Cls K C ∧ NoAttr K C f ∧ fs.lookup f = some v ∧ Q v H
theorem fld_ (h : ta σ H (zFld K f Q)) : tFld K ta f σ H Q := h
theorem zfld_ (e : H a = some (.ins C dx fs)) (c : Cls K C) (n : NoAttr K C f) (l : fs.lookup f = some v) (h : Q v H) : zFld K f Q (.ref a) H := ⟨a, C, dx, fs, v, rfl, e, c, n, l, h⟩
def zSet (K : PySem.W.Frag) (f : Str) (y : V) (N : L2.St → Hp → Prop) (σ : L2.St) (x : V) (H : Hp) : Prop := ∃ a C dx fs, x = .ref a ∧ H a = some (.ins C dx fs) ∧ Cls K C ∧ NoAttr K C f ∧ fs.length < 1000 ∧ N σ (upd H a (.ins C dx (putF f y fs)))
theorem seq_fld (h : tv σ H fun y H1 => ta σ H1 (zSet K f y (u D) σ)) : tSeq (sFld K ta tv f) u D σ H := h
theorem fldS_ (h : tv σ H fun y H1 => ta σ H1 (zSet K f y D.nx σ)) : sFld K ta tv f D σ H := h
theorem zset_ {N : L2.St → Hp → Prop} {fs' : List (Str × V)} (e : H a = some (.ins C dx fs)) (c : Cls K C) (n : NoAttr K C f) (l : fs.length < 1000) (p : putF f y fs = fs') (h : ∀ H', H' a = some (.ins C dx fs') → But a H H' → N σ H') : zSet K f y N σ (.ref a) H :=
  ⟨a, C, dx, fs, rfl, e, c, n, l, h _ (by rw [upd_same, p]) But.upd⟩
/-- calls -/
def zCK (sp : Sp) (gV : List V → List V → List V) (E : XK) (n m : Nat) (Q : VK) (vs zs : List V) (H : Hp) : Prop := vs.length = n ∧ zs.length = m ∧ sp (gV vs zs) H Q E
theorem ck_ {sp : Sp} {gV : List V → List V → List V} {E : L2.St → XK} {n m : Nat} (h : t σ H fun vs H1 => tk σ H1 (zCK sp gV (E σ) n m Q vs)) : tCK sp gV E n m t tk σ H Q := h
theorem zck_ {sp : Sp} {gV : List V → List V → List V} {E : XK} {n m : Nat} {vs zs ws : List V} (l1 : vs.length = n) (l2 : zs.length = m) (e : gV vs zs = ws) (h : sp ws H Q E) : zCK sp gV E n m Q vs zs H := ⟨l1, l2, e ▸ h⟩
theorem mk_ {m : Str} {sp : Sp} {gV : List V → List V → List V} {E : L2.St → XK} {n l : Nat} (h : ta σ H (zMeth C m t (fun x vs H2 => tk σ H2 (zCK sp gV (E σ) n l Q (x :: vs))) σ)) : tMK C m sp gV E n l ta t tk σ H Q := h
theorem zmeth_ {m : Str} {q : V → List V → Hp → Prop} (e : H a = some (.ins C dx fs)) (n : fs.lookup m = none) (h : t σ H fun vs H2 => q (.ref a) vs H2) : zMeth C m t q σ (.ref a) H := ⟨a, dx, fs, rfl, e, n, h⟩
def zKK (C : Addr) (sp : Sp) (gV : List V → List V → List V) (E : XK) (n m : Nat) (Q : VK) (vs zs : List V) (H : Hp) : Prop := vs.length = n ∧ zs.length = m ∧ zMake C (fun x H3 Q3 => sp (gV (x :: vs) zs) H3 Q3 E) H Q
theorem kk_ {sp : Sp} {gV : List V → List V → List V} {E : L2.St → XK} {n m : Nat} (h : t σ H fun vs H1 => tk σ H1 (zKK C sp gV (E σ) n m Q vs)) : tKK C sp gV E n m t tk σ H Q := h
def zSp (sp : Sp) (ws : List V) (H : Hp) (Q : VK) (E : XK) : Prop := sp ws H Q E
theorem zsp_ {sp : Sp} {vs ws : List V} {E : XK} (e : vs = ws) (h : sp ws H Q E) : zSp sp vs H Q E := e ▸ h
theorem zkk_ {sp : Sp} {gV : List V → List V → List V} {E : XK} {n m : Nat} {vs zs : List V} (l1 : vs.length = n) (l2 : zs.length = m)
    (h : ∀ x dx H', H x = none → H dx = none → dx ≠ x → Ex H H' → H' x = some (.ins C dx []) → zSp sp (gV (.ref x :: vs) zs) H' (fun v H2 => v = .non ∧ Q (.ref x) H2) E) : zKK C sp gV E n m Q vs zs H := by
  refine ⟨l1, l2, fun x dx hx hd ne => h x dx _ hx hd ne ?_ upd_same⟩
  intro b o hb
  rw [upd_ne (ne_of_none hb hx), upd_ne (ne_of_none hb hd)]
  exact hb
end
end Z
/-! Z, part XK: the making of own errors where the maker may be another class's than the first step (KeyError: LookupError's). -/
namespace Z
open PySem PySem.Spec PyProof.Rows L2 PySem.HandSPX PySem.OEX Builtin Builtin.ObjectAttr
/-- the maker -/
structure NewOk (tl : List Value) (newId : String) : Prop where
  facts : ∃ (B i : String) (m : List Value), ExcBaseFacts B newId i m ∧ tl.contains (.type B) = true
  noAttr : tl.contains (.type "AttributeError") = false
  noName : tl.contains (.type "NameError") = false
/-- the first step -/
structure IniOk (tl : List Value) (initId : String) : Prop where
  facts : ∃ B : String, Slot B "__init__" initId ∧ splitId initId = some (B, "__init__") ∧ Manifest.signature? initId = some ⟨.positional, "*", B, .self, [⟨"args", .varPos, false⟩]⟩ ∧ (B != "*") = true ∧ tl.contains (.type B) = true
  entry : entryFor table initId = some Builtin.«BaseException.__init__»
  kind : builtinKind initId = some .slot
theorem newOk_of {B n i : String} {m : List Value} (F : ExcBaseFacts B n i m) : NewOk m n := ⟨⟨B, i, m, F, F.hasB⟩, F.noAttr, F.noName⟩
theorem iniOk_of {B n i : String} {m : List Value} (F : ExcBaseFacts B n i m) : IniOk m i := ⟨⟨B, F.init, F.initSplit, F.initRow, F.noStar, F.hasB⟩, F.initEntry, F.initKind⟩
section
variable {prog : Program} {w : World} {M : Model} {A : Around} {E : Value → Shared → Prop} {R : Result → Shared → Prop} {h : Heap} {g : Array GenState} {d : Drawn} {t : Nat} {os : OsState}
variable {nm q : Str} {C N : Addr} {bs bm tl : List Value} {hdct : Bool} {sn : List Str} {sub : List Value} {ab : Bool} {col : Option Bool} {dd : Option Addr} {k0 k1 k2 k3 k5 : Option Value} {newId initId : String}
theorem errK_check (F : NewOk tl newId) (hT : ∀ X : String, bm.contains (.type X) = tl.contains (.type X)) {rest : List Value} {Q : Unit → Shared → Prop}
    (hC : h.get? C = some (excClassObj nm q C N bs bm hdct sn sub ab col dd k0 k1 k2 k3 k5 newId)) (hq : Q () ⟨h, g, d, t, os⟩) : wpAny M A (checkBuiltinCall newId ⟨.ref C :: rest, []⟩) Q E ⟨h, g, d, t, os⟩ := by
  obtain ⟨B, i, m, FB, hB⟩ := F.facts
  have hcont : (Value.ref C :: bm).contains (.type B) = true := by rw [List.contains_cons, hT, hB, Bool.or_true]
  have hstar := FB.noStar
  simp only [checkBuiltinCall, FB.newKind, FB.newSplit, FB.newRow]
  repeat (first | refine wpAny_loadPart_at hC ?_ | (refine wpAny_isSubtype_exc hC ?_; rw [hcont]) | refine wpAny_staticBase_exc hC ?_ | refine wpAny_madeBy_exc hC ?_ | simp only [bne_self_eq_false, Bool.false_eq_true, if_false] | wp_step)
  exact hq
theorem errK_iniCheck (F : IniOk tl initId) (hT : ∀ X : String, bm.contains (.type X) = tl.contains (.type X)) {e : Addr} {oe : Obj} {rest : List Value} {Q : Unit → Shared → Prop}
    (hC : h.get? C = some (excClassObj nm q C N bs bm hdct sn sub ab col dd k0 k1 k2 k3 k5 newId)) (he : h.get? e = some oe) (hcls : oe.cls = .ref C) (hq : Q () ⟨h, g, d, t, os⟩) :
    wpAny M A (checkBuiltinCall initId ⟨.ref e :: rest, []⟩) Q E ⟨h, g, d, t, os⟩ := by
  obtain ⟨B, _, hs, hr, hshort, hB⟩ := F.facts
  have hcB : (Value.ref C :: bm).contains (.type B) = true := by rw [List.contains_cons, hT, hB, Bool.or_true]
  simp only [checkBuiltinCall, F.kind, hs, hr]
  repeat (first | (with_reducible refine wpAny_loadPart_at he ?_; rw [hcls]) | with_reducible refine wpAny_loadPart_at hC ?_ | (with_reducible refine wpAny_isSubtype_exc hC ?_; rw [hcB]) | wp_step)
  refine wpAny_onRaise ?_
  rw [show ∀ (a b : String) (n : Nat), Bind.check ⟨.positional, "*", B, .self, [⟨"args", .varPos, false⟩]⟩ a b n (List.map (fun x => x.fst) ({ pos := Value.ref e :: rest } : Args).kw) = pure () from
    fun a b n => check_star_args _ _ _ _ _ _]
  exact wpAny_pure hq
theorem errK_new (F : NewOk tl newId) (hT : ∀ X : String, bm.contains (.type X) = tl.contains (.type X)) {rest : List Value}
    (hC : h.get? C = some (excClassObj nm q C N bs bm hdct sn sub ab col dd k0 k1 k2 k3 k5 newId))
    (hq : R (.ok (.ret (.ref (h.objs.size + 1)))) ⟨(h.push (W.kdv_tup rest)).push (excO C h.objs.size), g, d, t, os⟩) (hrest : rest.length ≤ sizeLine) :
    codeAny (model prog w) A (.builtin newId ⟨.ref C :: rest, []⟩) R ⟨h, g, d, t, os⟩ := by
  obtain ⟨B, i, m, FB, hB⟩ := F.facts
  have hends := FB.ends
  have hcB : (Value.ref C :: bm).contains (.type B) = true := by rw [List.contains_cons, hT, hB, Bool.or_true]
  have hcA : (Value.ref C :: bm).contains (.type "AttributeError") = false := by rw [List.contains_cons, hT, F.noAttr]; rfl
  have hcN : (Value.ref C :: bm).contains (.type "NameError") = false := by rw [List.contains_cons, hT, F.noName]; rfl
  refine codeAny_builtinAt FB.entry ?_
  unfold Builtin.«BaseException.__new__»
  refine PySem.wpAt_bind ?_
  show PySem.wpAt _ _ _ (stack >>= _) _ _ _
  refine PySem.wpAt_bind (PySem.wpAt_stack fun p below => PySem.wpAt_of_wpAny ?_)
  wp_walk
  refine PySem.wpAt_of_wpAny ?_
  rw [FB.owner]
  repeat (first | with_reducible refine wpAny_madeHere_exc FB.canon hC ?_ | with_reducible refine wpAny_loadPart_at hC ?_ | (with_reducible refine wpAny_isSubtype_exc hC ?_; first | rw [hcB] | rw [hcA] | rw [hcN]) | wp_step)
  show R _ _
  rw [Heap.size_push]
  exact hq
theorem errK_type (F : NewOk tl newId) (hT : ∀ X : String, bm.contains (.type X) = tl.contains (.type X)) {rest : List Value} {fI : Addr} {Q : Fin → Shared → Prop}
    (hC : h.get? C = some (excClassObj nm q C N bs bm hdct sn sub ab col dd k0 k1 k2 k3 k5 newId))
    (hi : W.Looks (model prog w) h (typeLookup (.ref C) "__init__") (some (.ref fI))) (hb : ∀ self, W.Looks (model prog w) h (bindSpecial (.ref fI) self) (.ref fI, [self])) (hrest : rest.length ≤ sizeLine)
    (hq : codeAny (model prog w) A (.call (.ref fI) ⟨.ref (h.objs.size + 1) :: rest, []⟩)
      (fun r s' => match r with | .ok (.ret v) => v = .none ∧ Q (.done (.ret (.ref (h.objs.size + 1)))) s' | .ok _ => False | .error e => E e s')
      ⟨(h.push (W.kdv_tup rest)).push (excO C h.objs.size), g, d, t, os⟩) :
    wpAny (model prog w) A (Builtin.«type.__call__» ⟨.ref C :: rest, []⟩) Q E ⟨h, g, d, t, os⟩ := by
  obtain ⟨B, i, m, FB, hB⟩ := F.facts
  repeat (first | with_reducible refine wpAny_loadPart_at hC ?_ | with_reducible refine wpAny_madeBy_exc hC ?_ | wp_step)
  refine codeAny_call_builtin_code (Code.quiet_builtin _ FB.quiet) (errK_check F hT hC ?_)
  refine errK_new F hT hC ?_ hrest
  show wpAny _ _ _ _ _ _
  have k : ∀ b o, h.get? b = some o → ((h.push (W.kdv_tup rest)).push (excO C h.objs.size)).get? b = some o := fun b o e => Heap.get?_push_of_some _ (Heap.get?_push_of_some _ e)
  have hC1 := k _ _ hC
  have hget : ((h.push (W.kdv_tup rest)).push (excO C h.objs.size)).get? (h.objs.size + 1) = some (excO C h.objs.size) := by heap_get
  have hcC : (Value.ref C :: bm).contains (.ref C) = true := by simp
  have i1 := hi.keeps k
  have b1 := (hb (.ref (h.objs.size + 1))).keeps k
  unfold isInstance
  repeat (first | with_reducible refine wpAny_loadPart_at hget ?_ | (with_reducible refine wpAny_isSubtype_exc hC1 ?_; rw [hcC]) | wp_step)
  show wpAny _ _ (typeLookup (.ref C) _) _ _ _
  refine i1.at ?_
  refine wpAny_holding (wpAny_bind (b1.at ?_))
  refine wpAny_bind (wpAny_call (codeAny_mono hq fun r s' z => ?_))
  rcases r with e | (v | _ | _ | _) <;> first | exact z | exact z.elim | skip
  obtain ⟨rfl, z⟩ := z
  first
    | exact wpAny_pure (wpAny_pure z)
    | (wp_walk; exact z)
theorem errK_call (F : NewOk tl newId) (hT : ∀ X : String, bm.contains (.type X) = tl.contains (.type X)) {rest : List Value} {fI : Addr}
    (hC : h.get? C = some (excClassObj nm q C N bs bm hdct sn sub ab col dd k0 k1 k2 k3 k5 newId))
    (hi : W.Looks (model prog w) h (typeLookup (.ref C) "__init__") (some (.ref fI))) (hb : ∀ self, W.Looks (model prog w) h (bindSpecial (.ref fI) self) (.ref fI, [self])) (hrest : rest.length ≤ sizeLine)
    (hq : codeAny (model prog w) (A.under (.builtin "type.__call__" ⟨.ref C :: rest, []⟩)) (.call (.ref fI) ⟨.ref (h.objs.size + 1) :: rest, []⟩) (W.InitBack (h.objs.size + 1) R)
      ⟨(h.push (W.kdv_tup rest)).push (excO C h.objs.size), g, d, t, os⟩) :
    codeAny (model prog w) A (.call (.ref C) ⟨rest, []⟩) R ⟨h, g, d, t, os⟩ := by
  have f1 := tc_lookup
  have f2 := tc_bind (.ref C)
  have hTy : (⟨h, g, d, t, os⟩ : Shared).TypeIs (.ref C) "type" := ⟨_, hC, rfl⟩
  refine codeAny_of_tree ?_
  show wpAny _ _ (callAny (.ref C) _) _ _ _
  repeat (any_goals (first | assumption | with_reducible refine wpAny_loadPart_at hC ?_ | wp_step))
  refine ⟨rfl, ?_⟩
  refine codeAny_call_builtin_at (Code.quiet_builtin _ (by decide +kernel)) entry_typeCall (wpAny_check_type_call_sub hC (errK_type F hT hC hi hb hrest ?_))
  refine codeAny_mono hq fun r s' z => ?_
  rcases r with e | (v | _ | _ | _) <;> exact z
theorem errK_init (F : IniOk tl initId) (hT : ∀ X : String, bm.contains (.type X) = tl.contains (.type X)) {e t0 : Addr} {rest : List Value}
    (hC : h.get? C = some (excClassObj nm q C N bs bm hdct sn sub ab col dd k0 k1 k2 k3 k5 newId)) (he : h.get? e = some (excO C t0)) (hrest : rest.length ≤ sizeLine)
    (hq : ∀ h' t1, (∀ b o, b ≠ e → h.get? b = some o → h'.get? b = some o) → h'.get? e = some (excO C t1) → R (.ok (.ret .none)) ⟨h', g, d, t, os⟩) :
    codeAny (model prog w) A (.call (.builtin initId) ⟨.ref e :: rest, []⟩) R ⟨h, g, d, t, os⟩ := by
  obtain ⟨B, sl, _⟩ := F.facts
  refine codeAny_call_builtin sl.plain F.entry (errK_iniCheck F hT hC he rfl ?_)
  wp_walk
  refine hq _ h.objs.size (fun b o hb ho => ?_) ?_
  · rw [Heap.get?_update_other _ _ (Ne.symm hb)]
    exact Heap.get?_push_of_some _ ho
  · rw [Heap.get?_update_self _ (Heap.get?_push_of_some _ he) rfl]
    rfl
end
def keyTail : List Value := [.type "KeyError", .type "LookupError", .type "Exception", .type "BaseException", .type "object"]
theorem newOk_KeyError : NewOk keyTail "LookupError.__new__" := ⟨⟨_, _, _, F.excBase_LookupError, by decide +kernel⟩, by decide +kernel, by decide +kernel⟩
theorem iniOk_KeyError : IniOk keyTail "KeyError.__init__" := ⟨⟨"KeyError", excClass_KeyError.init, excClass_KeyError.initSplit, excClass_KeyError.initSig, excClass_KeyError.notStar, by decide +kernel⟩, excClass_KeyError.initEntry, excClass_KeyError.initKind⟩
theorem pass_KeyError (self : Value) : refuseLoop self "__setattr__" keyTail = pure () := by
  show refuseLoop self "__setattr__" [.type "KeyError", .type "LookupError", .type "Exception", .type "BaseException", .type "object"] = pure ()
  kernel_rfl
end Z
/-! Z, part X: own classes of errors over any built-in one; their making, raise. -/
namespace Z
open PySem PySem.Spec PyProof.Rows L2 PySem.HandSPX PySem.OEX Builtin Builtin.ObjectAttr
/-- what is told of a built-in class of errors: tl its mro -/
structure TailOk (tl : List Value) (newId initId : String) : Prop where
  new : NewOk tl newId
  ini : IniOk tl initId
  pass : ∀ self, refuseLoop self "__setattr__" tl = pure ()
  obj : tl.contains (.type "object") = true
theorem own_has {tl : List Value} (X : String) : ∀ cs : List Addr, (cs.map Value.ref ++ tl).contains (.type X) = tl.contains (.type X)
  | [] => rfl
  | c :: cs => by
    rw [List.map_cons, List.cons_append, List.contains_cons, own_has X cs]
    rfl
theorem own_pass {tl : List Value} {newId initId : String} (T : TailOk tl newId initId) (self : Value) : ∀ cs : List Addr, refuseLoop self "__setattr__" (cs.map Value.ref ++ tl) = pure ()
  | [] => T.pass self
  | c :: cs => by
    rw [List.map_cons, List.cons_append, refuseLoop_ref]
    exact own_pass T self cs
theorem own_some {tl : List Value} {newId initId : String} (T : TailOk tl newId initId) (cs : List Addr) : (cs.map Value.ref ++ tl).isEmpty = false := by
  cases h : (cs.map Value.ref ++ tl) with
  | nil =>
    have := own_has "object" (tl := tl) cs
    rw [h, T.obj] at this
    cases this
  | cons _ _ => rfl
/-- what the written part says of an own class of errors -/
structure ErrC (K : PySem.W.Frag) (C : Addr) (newId initId : String) : Prop where
  ex : ∃ (tl : List Value) (nm q : Str) (N : Addr) (bs : List Value) (cs : List Addr) (sn : List Str) (sub : List Value) (ab : Bool) (col : Option Bool) (dd : Option Addr) (k0 k1 k2 k3 k5 : Option Value), TailOk tl newId initId ∧ K.lookup C = some (excClassObj nm q C N bs (cs.map Value.ref ++ tl) true sn sub ab col dd k0 k1 k2 k3 k5 newId)
  sa : PySem.W.findIn K (.ref C) "__setattr__" = some (some (.builtin "object.__setattr__"))
  exC : PySem.W.subIn K (.ref C) (.type "BaseException") = some true
  tyC : PySem.W.typeIn K (.ref C) = some (.type "type")
  kC : PySem.W.keepIn K (.ref C) = true
section
variable {prog : Program} {w : World} {A : Around} {R : Result → Shared → Prop} {hp : Heap} {g : Array GenState} {d : Drawn} {t : Nat} {os : OsState} {K : W.Frag} {tl : List Value} {newId initId : String}
/-- object.__setattr__ of an exception comes to the store in its own dict -/
theorem err_set {name : Str} {tk : Tok} {v : Value} {x C : Addr} {ox : Obj} {od : Option Obj} {cd : ClassData} {cs : List Addr} (T : TailOk tl newId initId)
    (X : K.In hp) (I : W.InstAt hp x ox C od) (hcd : W.clsIn K C = some cd) (hm : cd.mro = cs.map Value.ref ++ tl) (ha : W.findIn K (.ref C) name = some none)
    (q : wpAny (model prog w) A.in1 (storeInOwnDict (.ref x) (.ref C) (.str name tk) name v false) (fun fin s' => match fin with | .done f => R (.ok f) s' | .again c => c.quiet = true ∧ codeAny (model prog w) A c R s') (fun e s' => R (.error e) s') ⟨hp, g, d, t, os⟩) :
    codeAny (model prog w) A (.call (.builtin "object.__setattr__") ⟨[.ref x, .str name tk, v], []⟩) R ⟨hp, g, d, t, os⟩ := by
  have SF := F.store_object
  have hob : cd.mro.contains (.type "object") = true := by rw [hm, own_has]; exact T.obj
  have ne : cd.mro.isEmpty = false := by rw [hm]; exact own_some T cs
  have isO : W.Looks (model prog w) hp (isInstance (.ref x) (.type "object")) true := I.type.andThen (W.looks_mroIn X (by
    unfold W.mroIn
    rw [hcd, Option.bind_some, if_neg (by rw [ne]; decide), hob]))
  refine codeAny_call_builtin SF.slot.plain SF.entry (@W.check_slot (model prog w) _ _ ⟨hp, g, d, t, os⟩ "object.__setattr__" "object" "__setattr__" (.ref x) [.str name tk, v] [] _ SF.kind SF.split isO (SF.args (.ref x) (.str name tk) v) ?_)
  have lm : W.Looks (model prog w) hp (mroOf (.ref C)) cd.mro := (W.looks_clsIn X hcd).andThen .now
  have ln : W.Looks (model prog w) hp (storeTaker? none) none := .now
  rw [W.osa_eq, refuse_eq]
  refine wpAny_bind (wpAny_bind (I.type.at (wpAny_bind (lm.at ?_))))
  rw [hm, own_pass T _ cs]
  exact wpAny_pure (wpAny_bind (I.type.at (wpAny_bind ((W.looks_findIn X ha).at (wpAny_bind (ln.at q))))))
/-- the first field: a dict is laid -/
theorem err_new {name : Str} {tk : Tok} {v : Value} {x C : Addr} {fv : Array Value} {cd : ClassData} {cs : List Addr} (T : TailOk tl newId initId)
    (X : K.In hp) (hx : hp.get? x = some { cls := .ref C, data := .fields fv }) (hcd : W.clsIn K C = some cd) (hm : cd.mro = cs.map Value.ref ++ tl) (hh : cd.hasDict = true) (ha : W.findIn K (.ref C) name = some none)
    (q : ∀ h' tk' dx, (∀ b o, b ≠ x → hp.get? b = some o → h'.get? b = some o) → hp.objs.size ≤ dx → dx ≠ x → h'.get? x = some { cls := .ref C, dict := some dx, data := .fields fv } →
      h'.Ns1 dx (fun y => if y = name then some v else none) → R (.ok (.ret .none)) ⟨h', g, d, tk', os⟩) :
    codeAny (model prog w) A (.call (.builtin "object.__setattr__") ⟨[.ref x, .str name tk, v], []⟩) R ⟨hp, g, d, t, os⟩ := by
  have xs : x ≠ hp.objs.size := Nat.ne_of_lt (Heap.lt_size hx)
  refine err_set T X (od := none) ⟨hx, rfl, rfl, trivial⟩ hcd hm ha ?_
  have lc : W.Looks (model prog w) hp (classData C) cd := W.looks_clsIn X hcd
  obtain ⟨nm, bs, mro, ns, qn, hd, sn, sb, ab, col, del⟩ := cd
  obtain rfl : hd = true := hh
  unfold storeInOwnDict ownDictForStores
  repeat (first | with_reducible refine store_in_new ?_ ?_ | with_reducible refine wpAny_loadPart_at hx ?_ | with_reducible refine lc.at ?_ | wp_step)
  · exact ⟨_, #[], _, (Heap.get?_update_ne _ _ _ _ xs.symm).trans (Heap.get?_push_at rfl rfl), rfl, fun e he => absurd he (by simp), fun _ => rfl⟩
  · intro h' tk' hn' hs
    have hx1 : (hp.push { cls := .type "dict", data := .dict #[] }).get? x = some { cls := .ref C, data := .fields fv } := Heap.get?_push_of_some _ hx
    refine q h' tk' hp.objs.size (fun b o nb e => ?_) (Nat.le_refl _) xs.symm ((hs.2 x xs).trans (Heap.get?_update_self _ hx1 rfl)) hn'
    exact (hs.2 b (Nat.ne_of_lt (Heap.lt_size e))).trans ((Heap.get?_update_ne _ _ _ _ nb).trans (Heap.get?_push_of_some _ e))
/-- a further field -/
theorem err_old {name : Str} {tk : Tok} {v : Value} {x C dx : Addr} {fv : Array Value} {cd : ClassData} {m0 : Str → Option Value} {nl : List Str} {cs : List Addr} (T : TailOk tl newId initId)
    (X : K.In hp) (hx : hp.get? x = some { cls := .ref C, dict := some dx, data := .fields fv }) (hns : hp.Ns1 dx m0) (hw : Within m0 nl) (hz : nl.length ≤ 1000) (hcd : W.clsIn K C = some cd) (hm : cd.mro = cs.map Value.ref ++ tl) (hh : cd.hasDict = true)
    (ha : W.findIn K (.ref C) name = some none)
    (q : ∀ h' tk', (∀ b o, b ≠ dx → hp.get? b = some o → h'.get? b = some o) → h'.Ns1 dx (fun y => if y = name then some v else m0 y) → R (.ok (.ret .none)) ⟨h', g, d, tk', os⟩) :
    codeAny (model prog w) A (.call (.builtin "object.__setattr__") ⟨[.ref x, .str name tk, v], []⟩) R ⟨hp, g, d, t, os⟩ := by
  obtain ⟨oD, esD, epD, hoD, hdD, cnt⟩ := hns.count hw
  refine err_set T X (od := some oD) ⟨hx, rfl, rfl, hoD⟩ hcd hm ha ?_
  have lc : W.Looks (model prog w) hp (classData C) cd := W.looks_clsIn X hcd
  obtain ⟨nm, bs, mro, ns, qn, hd, sn, sb, ab, col, del⟩ := cd
  obtain rfl : hd = true := hh
  unfold storeInOwnDict ownDictForStores
  repeat (first | with_reducible refine store_in_old hns hw hz ?_ | with_reducible refine wpAny_loadPart_at hx ?_ | with_reducible refine lc.at ?_ | wp_step)
  intro h' tk' hn' hs
  exact q h' tk' (fun b o nb e => (hs.2 b nb).trans e) hn'
end
theorem cls_of {K : PySem.W.Frag} {C N : Addr} {nm q : Str} {bs bm : List Value} {sn : List Str} {sub : List Value} {ab : Bool} {col : Option Bool} {dd : Option Addr} {k0 k1 k2 k3 k5 : Option Value} {i : String} (h : K.lookup C = some (excClassObj nm q C N bs bm true sn sub ab col dd k0 k1 k2 k3 k5 i)) :
    PySem.W.clsIn K C = some { name := nm, bases := bs, mro := .ref C :: bm, ns := N, qualname := q, hasDict := true, slotNames := sn, subclasses := sub, abstract := ab, collection := col, hasDel := false } := by
  unfold PySem.W.clsIn
  rw [h] <;> rfl
section
variable {X : Cx} {pins : List (Addr × Obj)} {σ : L2.St} {H : Hp} {s : Shared} {a C dx : Addr} {f : Str} {y : V} {u : Value} {fs : List (Str × V)} {Q : Unit → Shared → Prop} {E : Value → Shared → Prop} {A : Around} {newId initId : String}
theorem err_fld (T : ErrC X.K C newId initId) (I : Inv X pins σ H s) (e : H a = some (exo a C none)) (hno : PySem.W.findIn X.K (.ref C) f = some none) (ry : RelV y u)
    (h : ∀ dx s', H dx = none → dx ≠ a → Inv X pins σ (upd (upd H dx (exd dx [(f, y)])) a (exo a C (some dx))) s' → Q () s') : wpAny (model X.prog X.w) A (setAttr (.ref a) f u) Q E s := by
  obtain ⟨tl, nm, q, N, bs, cs, sn, sub, ab, col, dd, k0, k1, k2, k3, k5, TT, hC⟩ := T.ex
  have hcl := cls_of hC
  obtain ⟨t1, ho⟩ := exo_at I.hok e
  obtain ⟨hp, g, d, t, os⟩ := s
  refine PySem.W.set_plain I.kIn (ox := { cls := .ref C, dict := none, data := .fields #[.ref t1, .none, .none, .none, .bool false, .none] }) (od := none) ⟨ho, rfl, rfl, trivial⟩ T.sa ?_
  refine err_new TT (cs := C :: cs) I.kIn ho hcl rfl rfl hno (fun h' tk' dx k dn dne hx hn => ?_)
  have free : H dx = none := I.hok.fresh dn
  have nd : ∀ {b : Addr} {o : Obj}, hp.get? b = some o → b ≠ dx := fun {b o} q => Nat.ne_of_lt (Nat.lt_of_lt_of_le (Heap.lt_size q) dn)
  have na : ∀ {b : Addr}, H b = none → b ≠ a := fun {b} n z => by
    rw [z, e] at n
    cases n
  have U : Un X.fs [] H (upd (upd H dx (exd dx [(f, y)])) a (exo a C (some dx))) hp h' := by
    refine ⟨fun b o q n _ _ => k b o (na n) q, fun b o q n _ _ => ⟨o.slots, k b o (na n) q⟩, fun b o q n _ => by rw [upd_ne (na n), upd_ne (nd q)]; exact n, fun b o q _ => ?_,
      fun b xs q => by rw [upd_ne (at_ne e q exo_tup), upd_ne (ne_of_none q free)]; exact q, fun b o v q => by rw [upd_ne (at_ne e q exo_frz), upd_ne (ne_of_none q free)]; exact q,
      fun b ps q => ⟨#[], by rw [upd_ne (at_ne e q exo_tbl), upd_ne (ne_of_none q free), q]; simp⟩⟩
    by_cases hb : b = a
    · exact ⟨_, by rw [hb]; exact hx⟩
    · exact ⟨o, k b o hb q⟩
  refine h dx _ free dne (I.un (t' := tk') U fun b o q => ?_)
  by_cases hb : b = a
  · subst hb
    rw [upd_same] at q
    cases q
    exact exo_ok hx
  rw [upd_ne hb] at q
  by_cases hd : b = dx
  · subst hd
    rw [upd_same] at q
    cases q
    exact exd_ok hn (relO_put (fs := []) ry fun g => True.intro)
  rw [upd_ne hd] at q
  refine (I.hok b o q).stay (fun c v hc z => k c v ?_ z) (fun c hc => by rw [upd_ne (at_ne e hc exo_own), upd_ne (ne_of_none hc free)]; exact hc) (fun c xs hc => by rw [upd_ne (at_ne e hc exo_tup), upd_ne (ne_of_none hc free)]; exact hc)
  rcases hc with hc | hc
  · rw [hc]; exact hb
  · exact at_ne e hc exo_own
theorem err_fld2 (T : ErrC X.K C newId initId) (I : Inv X pins σ H s) (e : H a = some (exo a C (some dx))) (ed : H dx = some (exd dx fs)) (hl : fs.length ≤ 900) (hno : PySem.W.findIn X.K (.ref C) f = some none) (ry : RelV y u)
    (h : ∀ s', Inv X pins σ (upd H dx (exd dx ((f, y) :: fs))) s' → Q () s') : wpAny (model X.prog X.w) A (setAttr (.ref a) f u) Q E s := by
  obtain ⟨tl, nm, q, N, bs, cs, sn, sub, ab, col, dd, k0, k1, k2, k3, k5, TT, hC⟩ := T.ex
  have hcl := cls_of hC
  obtain ⟨t1, ho⟩ := exo_at I.hok e
  obtain ⟨mA, hns, rel⟩ := exd_at I.hok ed
  have hw := within_of rel
  obtain ⟨hp, g, d, t, os⟩ := s
  obtain ⟨oD, _, _, hoD, _, _⟩ := hns.count hw
  refine PySem.W.set_plain I.kIn (ox := { cls := .ref C, dict := some dx, data := .fields #[.ref t1, .none, .none, .none, .bool false, .none] }) (od := some oD) ⟨ho, rfl, rfl, hoD⟩ T.sa ?_
  refine err_old TT (cs := C :: cs) I.kIn ho hns hw (by rw [List.length_map]; omega) hcl rfl rfl hno (fun h' tk' k hn => ?_)
  have there : ∃ o, h'.get? dx = some o := by
    obtain ⟨o, _, _, e', _⟩ := hn
    exact ⟨o, e'⟩
  exact h _ (I.write (t' := tk') (x := dx) (e := dx) (o := exd dx ((f, y) :: fs)) (by rw [ed]; exact True.intro) (.inl rfl) k there (exd_ok hn (relO_put ry rel)))
/-- the built-in __init__ -/
theorem err_init {us : List Value} {Q : Value → Shared → Prop} (T : ErrC X.K C newId initId) (I : Inv X pins σ H s) (e : H a = some (exo a C none)) (hl : us.length ≤ sizeLine) (h : ∀ s', Inv X pins σ H s' → Q .none s') :
    wpAny (model X.prog X.w) A (call (.builtin initId) (.ref a :: us)) Q E s := by
  obtain ⟨tl, nm, q, N, bs, cs, sn, sub, ab, col, dd, k0, k1, k2, k3, k5, TT, hC⟩ := T.ex
  obtain ⟨t1, ho⟩ := exo_at I.hok e
  obtain ⟨hp, g, d, t, os⟩ := s
  refine wpAny_call (errK_init TT.ini (fun Y => own_has Y cs) (I.kIn _ _ hC) ho hl fun h' t2 k hx => ?_)
  have J := I.write (t' := t) (x := a) (e := a) (o := exo a C none) (by rw [e]; exact True.intro) (.inl rfl) k ⟨_, hx⟩ (exo_ok hx)
  rw [show upd H a (exo a C none) = H from funext fun b => by
    by_cases hb : b = a
    · rw [hb, upd_same, e]
    · rw [upd_ne hb]] at J
  exact h _ J
end
/-! ### rules -/
/-- B.__init__(self, ..), B built in or an own class beneath it -/
def tErrI (K : PySem.W.Frag) (newId initId : String) (ta : TA) : TE := fun σ H Q => ta σ H fun vs H1 => ∃ (a C : Addr) (ws : List V), vs = .ref a :: ws ∧ ws.length ≤ 1000 ∧ ErrC K C newId initId ∧ H1 a = some (exo a C none) ∧ Q .non H1
/-- self.f = e -/
def tErrS (K : PySem.W.Frag) (newId initId : String) (f : Str) (to te : TE) : TS := fun D σ H => te σ H fun y H1 => to σ H1 fun x H2 => ∃ a C : Addr, x = .ref a ∧ ErrC K C newId initId ∧ PySem.W.findIn K (.ref C) f = some none ∧
  H2 a = some (exo a C none) ∧ ∀ dx, H2 dx = none → dx ≠ a → D.nx σ (upd (upd H2 dx (exd dx [(f, y)])) a (exo a C (some dx)))
section
variable {X : Cx} {o e : Expr} {es : List Expr} {to te : TE} {ta : TA} {f x : Str} {p p' p1 p2 pos : Pos} {newId initId : String}
theorem err_callee {pins : List (Addr × Obj)} {s : Shared} {σ : L2.St} {H : Hp} {Q : VK} {hd : Str} (I : Inv X pins σ H s) (ha : PA X (e :: es) ta)
    (h : tErrI X.K newId initId ta σ H Q) (he : starEach (e :: es) X.env = (false, eval e X.env) :: starEach es X.env) (hpl : (backTo pos (starEach es X.env)).any (·.1) = false) :
    wpAny (model X.prog X.w) X.A (callWith pos (Value.builtin initId) [] (backTo pos (starEach (e :: es) X.env)) []) (EP X pins σ Q) X.xe s := by
  refine PyProof.Rows.callWith_method1 (thn (ha.run pos pins _ σ H _ I h) fun us s1 ⟨vs, H1, I1, r1, a, C, ws, ev, hl, T, ea, q⟩ => ?_) he hpl
  subst ev
  cases r1 with
  | @cons _ u0 _ ur ra rw' =>
    obtain rfl : u0 = Value.ref a := ra
    have few : ur.length ≤ sizeLine := by
      rw [← Paired.length rw', sizeLine_eq]
      omega
    exact err_init T I1 ea few fun s' J => ⟨.non, H1, J, rfl, q⟩
theorem pe_binit {pl : Sem Bool} {B : String} (hg : Gl X x) (hm : X.mg x = none) (hv : bootBuiltins x = some (.type B)) (typ : typeOf (.type B) = pure (.type "type")) (vV : PySem.W.findCls X.K (.type B) (.type "type") "__init__" = some (.val (.builtin initId))) (ha : PA X (e :: es) ta)
    (hst : Manifest.isStub B = false) (hh : PySem.W.handedIn (.builtin initId) = true)
    (hc : eval (.Call (.Attribute (.Name x p1) "__init__" p2) (e :: es) [] pos) X.env = (do
      let ov ← eval (.Name x p1) X.env
      standAt p2.atName
      let (f, first) ← holding [ov] (getMethod ov "__init__" pl)
      callWith pos f first (backTo pos (starEach (e :: es) X.env)) (backToKw pos (keywordEach [] X.env))) := by rfl)
    (hnn : x ≠ "__name__" := by decide) (hdb : (x == ("__debug__" : Str)) = false := by decide)
    (he : starEach (e :: es) X.env = (false, eval e X.env) :: starEach es X.env := by rfl) (hpl : (backTo pos (starEach es X.env)).any (·.1) = false := by rfl) :
    PE X (.Call (.Attribute (.Name x p1) "__init__" p2) (e :: es) [] pos) (tErrI X.K newId initId ta) := by
  refine ⟨fun pins s σ H Q I h => ?_⟩
  refine PySem.W.methodCall_KW (ld_blt I hg hm hv ?_ hnn hdb) hc
  obtain ⟨m, fr⟩ := I.fr
  exact PySem.W.method_type fr I.ok.mod.kin typ hst vV hh (err_callee (hd := x) (I.tok _) ha h he hpl)
theorem pe_cinit {pl : Sem Bool} {C0 : Addr} {mc : Value} (hg : Gl X x) (hm : X.mg x = some (.ref C0)) (rd : PySem.W.readsIn X.K C0 mc = true) (ga : PySem.W.specialIn X.K (.ref C0) "__getattribute__" = some (some (.builtin "type.__getattribute__")))
    (vV : PySem.W.findCls X.K (.ref C0) mc "__init__" = some (.val (.builtin initId))) (ha : PA X (e :: es) ta) (hh : PySem.W.handedIn (.builtin initId) = true)
    (hc : eval (.Call (.Attribute (.Name x p1) "__init__" p2) (e :: es) [] pos) X.env = (do
      let ov ← eval (.Name x p1) X.env
      standAt p2.atName
      let (f, first) ← holding [ov] (getMethod ov "__init__" pl)
      callWith pos f first (backTo pos (starEach (e :: es) X.env)) (backToKw pos (keywordEach [] X.env))) := by rfl)
    (hdb : (x == ("__debug__" : Str)) = false := by decide)
    (he : starEach (e :: es) X.env = (false, eval e X.env) :: starEach es X.env := by rfl) (hpl : (backTo pos (starEach es X.env)).any (·.1) = false := by rfl) :
    PE X (.Call (.Attribute (.Name x p1) "__init__" p2) (e :: es) [] pos) (tErrI X.K newId initId ta) := by
  refine ⟨fun pins s σ H Q I h => ?_⟩
  refine PySem.W.methodCall_KW (ld_glob I hg hm ?_ hdb) hc
  refine PySem.W.method_cls I.kIn ga (PySem.W.cls_value I.kIn rd vV hh ?_)
  exact err_callee (hd := x) (I.tok _) ha h he hpl
theorem ps_errS (ho : PE X o to) (he : PE X e te) (hs : swapsWith e (some (.Attribute o f p')) pos.line X.env = pure false := by rfl) : PS X (.Assign [.Attribute o f p'] e pos) (tErrS X.K newId initId f to te) := by
  refine ⟨fun pins s σ H D I h => ?_⟩
  refine plainObj_wpAny_Assign_Attribute (thn (he.run pins s σ H _ I h) fun v s1 ⟨y, H1, I1, r1, q1⟩ => thn (ho.run pins s1 σ H1 _ I1 q1) fun u s2 ⟨x, H2, I2, r2, a, C, ex, T, hno, ea, q⟩ => ?_) hs
  subst ex
  obtain rfl : u = Value.ref a := r2
  exact err_fld T I2 ea hno r1 fun dx s' n ne J => ⟨σ, _, J, q dx n ne⟩
end
/-- what an own __init__ of one field does -/
def spErr (C : Addr) (f : Str) : Sp := fun vs H Q _ => ∃ (a : Addr) (v : V), vs = [.ref a, v] ∧ H a = some (exo a C none) ∧ ∀ dx, H dx = none → dx ≠ a → Q .non (upd (upd H dx (exd dx [(f, v)])) a (exo a C (some dx)))
/-- a class of errors with such an __init__ -/
structure MkErr (P : Program) (w : World) (K : PySem.W.Frag) (mg : Str → Option Value) (base : Heap) (k : Nat) (x : Str) (C : Addr) (f : Str) : Prop where
  cls : ∃ n i, ErrC K C n i
  gl : mg x = some (.ref C)
  ex : ∃ (fi : Addr) (fd : FuncData) (ps : List Str), FnG P w K mg base k fi fd ps (spErr C f) ∧ PySem.W.findIn K (.ref C) "__init__" = some (some (.ref fi)) ∧ PySem.W.typeIn K (.ref fi) = some (.type "function") ∧ Binds K fd ps []
theorem MkErr.mono {P : Program} {w : World} {K : PySem.W.Frag} {mg : Str → Option Value} {base : Heap} {j k : Nat} {x : Str} {C : Addr} {f : Str} (M : MkErr P w K mg base j x C f) (h : j ≤ k) : MkErr P w K mg base k x C f := by
  obtain ⟨c, g, fi, fd, ps, F, r⟩ := M
  exact ⟨c, g, fi, fd, ps, F.mono h, r⟩
def zErr (C : Addr) (f : Str) (W : XK) (vs : List V) (H : Hp) : Prop := ∃ v, vs = [v] ∧ ∀ d, H d = none → W (.ref C) (some d) (upd H d (.xd [(f, v)]))
def tRaiseE (C : Addr) (f : Str) (W : WX) (ta : TA) : TS := fun _ σ H => ta σ H (zErr C f fun c d H' => W c d σ H')
section
variable {X : Cx} {e : Expr} {es : List Expr} {ta : TA} {f x : Str} {p pos : Pos} {C : Addr} {k : Nat} {W : WX}
theorem pmk_err (M : MkErr X.prog X.w X.K X.mg X.base k x C f) (room : Room (k + 1) X.A) (noG : X.A.guards = some []) (tk0 : ∀ e s', ∀ H s, L2N.CX X.prog X.w X.stack H s (fun _ _ _ => False) e s' → X.xe e s') (hg : Gl X x) (ha : PA X (e :: es) ta)
    (hdb : (x == ("__debug__" : Str)) = false := by decide) (he : starEach (e :: es) X.env = (false, eval e X.env) :: starEach es X.env := by rfl) (hpl : (backTo pos (starEach es X.env)).any (·.1) = false := by rfl) :
    L2N.PMk X (.Call (.Name x p) (e :: es) [] pos) (fun σ H Q => ta σ H (zErr C f Q)) := by
  intro pins s σ H Q I h
  obtain ⟨newId, initId, T⟩ := M.cls
  obtain ⟨fi, fd, ps, F, iC, tI, hb⟩ := M.ex
  obtain ⟨tl, nm, q, N, bs, cs, sn, sub, ab, col, dd, k0, k1, k2, k3, k5, TT, hC⟩ := T.ex
  refine wpAny_Call_Name_kw (ld_glob I hg M.gl ?_ hdb)
  refine PySem.W.callWith_K (h₀ := X.base) I.ok.mod.kin T.kC (thn (ha.run pos pins s σ H _ I h) ?_) he hpl
  rintro us s1 ⟨vs, H1, I1, r1, v, rfl, q1⟩
  refine ⟨I1.kIn, ?_⟩
  show wpAny _ _ (call (.ref C) us) _ _ _
  obtain ⟨hp, g, dr, tk, os⟩ := s1
  have up : hp.objs.size ≤ hp.objs.size + 1 := Nat.le_succ _
  have new : H1 (hp.objs.size + 1) = none := I1.hok.fresh up
  have kk : ∀ b o, hp.get? b = some o → ((hp.push (PySem.W.kdv_tup us)).push (PySem.HandSPX.excO C hp.objs.size)).get? b = some o := fun b o e => Heap.get?_push_of_some _ (Heap.get?_push_of_some _ e)
  have here : ((hp.push (PySem.W.kdv_tup us)).push (PySem.HandSPX.excO C hp.objs.size)).get? (hp.objs.size + 1) = some (PySem.HandSPX.excO C hp.objs.size) := by heap_get
  have I2 : Inv X pins σ (upd H1 (hp.objs.size + 1) (exo (hp.objs.size + 1) C none)) ⟨(hp.push (PySem.W.kdv_tup us)).push (PySem.HandSPX.excO C hp.objs.size), g, dr, tk, os⟩ :=
    I1.laid (t' := tk) (a := hp.objs.size + 1) (o := exo (hp.objs.size + 1) C none) (h' := (hp.push (PySem.W.kdv_tup us)).push (PySem.HandSPX.excO C hp.objs.size)) kk up (exo_ok here)
  have r2 : Vals (V.ref (hp.objs.size + 1) :: ([v] ++ [])) (Value.ref (hp.objs.size + 1) :: (us ++ [])) := .cons rfl (r1.append .nil)
  have want : spErr C f (V.ref (hp.objs.size + 1) :: ([v] ++ [])) (upd H1 (hp.objs.size + 1) (exo (hp.objs.size + 1) C none))
      (fun y H2 => y = .non ∧ ∃ (d : Addr) (fs : List (Str × V)), H2 (hp.objs.size + 1) = some (exo (hp.objs.size + 1) C (some d)) ∧ H2 d = some (exd d fs) ∧ H1 d = none ∧ Q (.ref C) (some d) (upd (del H2 (hp.objs.size + 1)) d (.xd fs))) (fun _ _ _ => False) := by
    refine ⟨_, v, rfl, upd_same, fun dx n ne => ⟨rfl, dx, _, upd_same, by rw [upd_ne ne, upd_same], by rwa [upd_ne ne] at n, ?_⟩⟩
    have nd : H1 dx = none := by rwa [upd_ne ne] at n
    have e : upd (del (upd (upd (upd H1 (hp.objs.size + 1) (exo (hp.objs.size + 1) C none)) dx (exd dx [(f, v)])) (hp.objs.size + 1) (exo (hp.objs.size + 1) C (some dx))) (hp.objs.size + 1)) dx (.xd [(f, v)]) = upd H1 dx (.xd [(f, v)]) := by
      funext b
      by_cases hb : b = dx
      · rw [hb, upd_same, upd_same]
      · rw [upd_ne hb, upd_ne hb]
        by_cases hc : b = hp.objs.size + 1
        · rw [hc, del_same, new]
        · rw [del_ne hc, upd_ne hc, upd_ne hb, upd_ne hc]
    rw [e]
    exact q1 dx nd
  have many : (Value.ref (hp.objs.size + 1) :: us ++ []).length = ps.length := by
    have e := r2.length
    rw [F.len _ _ _ _ want] at e
    exact e.symm
  have few : us.length ≤ sizeLine := by
    rw [← Paired.length r1, sizeLine_eq]
    exact (by decide : 1 ≤ 16777216)
  refine wpAny_call (errK_call TT.new (fun Y => own_has Y cs) (I1.kIn _ _ hC) (PySem.W.looks_findIn I1.kIn iC) (fun self => PySem.W.bind_fn I1.kIn self tI) few
    (codeAny_mono (F.run _ X.stack _ _ ⟨Value.ref (hp.objs.size + 1) :: us, []⟩ (Value.ref (hp.objs.size + 1) :: us ++ []) _ _ (fun _ _ _ => False) (room.make C us []) (make_guards noG) (I2.env0.make C us []) (hb _ (Value.ref (hp.objs.size + 1) :: us) I2.kIn many) r2 want) ?_))
  intro r s' hq'
  match r, hq' with
  | .error er, hq' => exact tk0 er s' _ _ hq'
  | .ok (.ret u), hq' =>
    obtain ⟨y, H2, os2, bare2, un2, hok2, rv, ev, d, fs, ea, ed, hd1, q2⟩ := hq'
    subst ev
    obtain ⟨h2, g2, d2, t2, os'⟩ := s'
    obtain ⟨t0, G, J, kG, ge, hoe, na⟩ := mk_end0 (d2 := d2) (t2 := t2) I1 up kk un2 hok2 os2 bare2 ea ed hd1
    exact ⟨rv, hp.objs.size + 1, _, _, ⟨G, g2, d2, t2, os'⟩, _, .ref C, some d, rfl, J, kG, ge, hoe, ⟨rfl, rfl, fun us e => by cases e; rfl⟩, rfl, rfl, na, rfl, bare2, raises_own T.exC T.tyC, q2⟩
  | .ok .next, hq' => exact False.elim hq'
  | .ok .brk, hq' => exact False.elim hq'
  | .ok .cont, hq' => exact False.elim hq'
theorem cx_none {X : Cx} : ∀ e s', ∀ H s, L2N.CX X.prog X.w X.stack H s (fun _ _ _ => False) e s' → X.xe e s' := by
  intro e s' H s c
  obtain ⟨_, _, _, _, _, _, _, _, _, _, _, _, no⟩ := c
  exact no.elim
/-- raise C(e) -/
theorem ps_raiseE {rpos : Pos} (hc : X.calm = true) (tk : L2N.Takes X W) (M : MkErr X.prog X.w X.K X.mg X.base k x C f) (room : Room (k + 1) X.A) (noG : X.A.guards = some []) (hg : Gl X x) (ha : PA X (e :: es) ta)
    (hdb : (x == ("__debug__" : Str)) = false := by decide) (he : starEach (e :: es) X.env = (false, eval e X.env) :: starEach es X.env := by rfl) (hpl : (backTo pos (starEach es X.env)).any (·.1) = false := by rfl) :
    PS X (.Raise (some (.Call (.Name x p) (e :: es) [] pos)) none rpos) (tRaiseE C f W ta) :=
  L2N.ps_raise hc tk (pmk_err M room noG cx_none hg ha hdb he hpl)
end
section
variable {σ : L2.St} {H : Hp} {D : Ends} {C : Addr} {f : Str} {W : WX} {ta : TA} {t : TS} {v : V} {WK : XK}
theorem raiseE_ (h : ta σ H (zErr C f fun c d H' => W c d σ H')) : tRaiseE C f W ta D σ H := h
theorem seq_raiseE {u : TS} (h : ta σ H (zErr C f fun c d H' => W c d σ H')) : tSeq (tRaiseE C f W ta) u D σ H := h
theorem zerr_ (h : ∀ d H', H d = none → Ex H H' → H' d = some (.xd [(f, v)]) → WK (.ref C) (some d) H') : zErr C f WK [v] H := ⟨v, rfl, fun d n => h d _ n (Ex.new n) upd_same⟩
end
end Z
namespace Z
open PySem
theorem tail_ValueError : TailOk [.type "ValueError", .type "Exception", .type "BaseException", .type "object"] "ValueError.__new__" "ValueError.__init__" := ⟨newOk_of F.excBase_ValueError, iniOk_of F.excBase_ValueError, F.store_ValueError.passes, by decide +kernel⟩
theorem tail_IndexError : TailOk [.type "IndexError", .type "LookupError", .type "Exception", .type "BaseException", .type "object"] "IndexError.__new__" "IndexError.__init__" := ⟨newOk_of F.excBase_IndexError, iniOk_of F.excBase_IndexError, F.store_IndexError.passes, by decide +kernel⟩
theorem tail_LookupError : TailOk [.type "LookupError", .type "Exception", .type "BaseException", .type "object"] "LookupError.__new__" "LookupError.__init__" := ⟨newOk_of F.excBase_LookupError, iniOk_of F.excBase_LookupError, F.store_LookupError.passes, by decide +kernel⟩
theorem tail_OverflowError : TailOk [.type "OverflowError", .type "ArithmeticError", .type "Exception", .type "BaseException", .type "object"] "OverflowError.__new__" "OverflowError.__init__" := ⟨newOk_of F.excBase_OverflowError, iniOk_of F.excBase_OverflowError, F.store_OverflowError.passes, by decide +kernel⟩
theorem tail_RuntimeError : TailOk [.type "RuntimeError", .type "Exception", .type "BaseException", .type "object"] "RuntimeError.__new__" "RuntimeError.__init__" := ⟨newOk_of F.excBase_RuntimeError, iniOk_of F.excBase_RuntimeError, F.store_RuntimeError.passes, by decide +kernel⟩
theorem tail_KeyError : TailOk [.type "KeyError", .type "LookupError", .type "Exception", .type "BaseException", .type "object"] "LookupError.__new__" "KeyError.__init__" := ⟨newOk_KeyError, iniOk_KeyError, pass_KeyError, by decide +kernel⟩
end Z
namespace Z
open PySem PySem.Spec PyProof.Rows L2 PySem.HandSPX PySem.OEX
section
variable {σ : L2.St} {H : Hp} {D : Ends} {ta : TA} {to te : TE} {K : PySem.W.Frag} {newId initId : String} {f : Str} {a C : Addr} {Q : VK} {y : V} {ws : List V} {N : L2.St → Hp → Prop}
def zErrI (K : PySem.W.Frag) (newId initId : String) (Q : VK) (vs : List V) (H : Hp) : Prop := ∃ (a C : Addr) (ws : List V), vs = .ref a :: ws ∧ ws.length ≤ 1000 ∧ ErrC K C newId initId ∧ H a = some (exo a C none) ∧ Q .non H
theorem errI_ (h : ta σ H (zErrI K newId initId Q)) : tErrI K newId initId ta σ H Q := h
theorem zerrI_ (T : ErrC K C newId initId) (e : H a = some (exo a C none)) (l : ws.length ≤ 1000) (h : Q .non H) : zErrI K newId initId Q (.ref a :: ws) H := ⟨a, C, ws, rfl, l, T, e, h⟩
def zErrS (K : PySem.W.Frag) (newId initId : String) (f : Str) (y : V) (N : L2.St → Hp → Prop) (σ : L2.St) (x : V) (H : Hp) : Prop := ∃ a C : Addr, x = .ref a ∧ ErrC K C newId initId ∧ PySem.W.findIn K (.ref C) f = some none ∧
  H a = some (exo a C none) ∧ ∀ dx, H dx = none → dx ≠ a → N σ (upd (upd H dx (exd dx [(f, y)])) a (exo a C (some dx)))
theorem errS_ (h : te σ H fun y H1 => to σ H1 (zErrS K newId initId f y D.nx σ)) : tErrS K newId initId f to te D σ H := h
theorem zerrS_ (T : ErrC K C newId initId) (no : PySem.W.findIn K (.ref C) f = some none) (e : H a = some (exo a C none)) (h : ∀ dx, H dx = none → dx ≠ a → N σ (upd (upd H dx (exd dx [(f, y)])) a (exo a C (some dx)))) : zErrS K newId initId f y N σ (.ref a) H :=
  ⟨a, C, rfl, T, no, e, h⟩
end
end Z
/-! Z, part S: len, str, repr, == of own objects; slices stored; starred targets; sums; f-texts. -/
namespace Z
open PySem PySem.Spec PyProof.Rows L2
theorem room_in1 {k : Nat} {A : Around} (r : Room (k + 1) A) : Room k A.in1 := ⟨r.hd, by have := r.dp; show A.depth + 3 * k + 5 < _; omega, by have := r.un; show A.units + 1 + 16 * k + 200 < _; omega⟩
section
variable {X : Cx} {k n : Nat} {C : Addr} {m : Str} {gV : List V → List V → List V} {sp : Sp}
/-- a method run within a built-in's frame -/
theorem run_own {pins : List (Addr × Obj)} {σ : L2.St} {H : Hp} {s : Shared} {Q : VK} {us : List Value} {vs : List V} {A : Around} {E : Value → Shared → Prop}
    (M : MthK X.prog X.w X.K X.mg X.base k C m n [] gV sp) (room : Room k A) (noG : A.guards = some []) (hf : A.frames = X.A.frames) (I : Inv X pins σ H s) (r : Vals vs us) (l : vs.length = n) (want : sp (gV vs []) H Q (fun _ _ _ => False)) :
    ∃ f, PySem.W.findIn X.K (.ref C) m = some (some (.ref f)) ∧ PySem.W.isFn X.K (.ref f) = true ∧ wpAny (model X.prog X.w) A (call (.ref f) us) (EP X pins σ Q) E s := by
  obtain ⟨f, fd, ps, g, F, hm, hb⟩ := M.ex
  refine ⟨f, hm.at_, hm.fn, ?_⟩
  have r2 := hb.rel r .nil
  have e0 := I.env0
  have e1 : Env0 X.prog X.w X.K X.mg X.base A X.stack s H := ⟨hf.trans e0.frames, e0.mod, e0.bs, e0.bsz, e0.funs, e0.frf, e0.hok, e0.bare⟩
  have ran := F.run A X.stack s H ⟨us, []⟩ (g us []) (gV vs []) Q (fun _ _ _ => False) room noG e1 (hb.to s us [] I.kIn (r.length.symm.trans l) rfl) r2 want
  refine wpAny_call (codeAny_mono ran ?_)
  intro r s' hr
  match r, hr with
  | .error e, hr =>
    obtain ⟨_, _, _, _, _, _, _, _, _, _, _, _, no⟩ := hr
    exact no.elim
  | .ok (.ret u), hr => exact I.after hr
  | .ok .next, hr => exact False.elim hr
  | .ok .brk, hr => exact False.elim hr
  | .ok .cont, hr => exact False.elim hr
theorem own_inst {pins : List (Addr × Obj)} {σ : L2.St} {H : Hp} {s : Shared} {a dx : Addr} {fs : List (Str × V)} (I : Inv X pins σ H s) (e : H a = some (.ins C dx fs)) : ∃ ox od, PySem.W.InstAt s.heap a ox C od := by
  obtain ⟨mA, O, _⟩ := ins_get I.hok e
  obtain ⟨od, J, _⟩ := O.look
  exact ⟨_, _, J⟩
def rOwn1 (C : Addr) (sp : Sp) (gV : List V → List V → List V) (P : VK → VK) : List V → Hp → VK → Prop := fun xs H Q => ∃ a dx fs, xs = [.ref a] ∧ H a = some (.ins C dx fs) ∧ sp (gV [.ref a] []) H (P Q) (fun _ _ _ => False)
def isLen (Q : VK) : VK := fun v H => ∃ n : Nat, v = .int n ∧ n ≤ 16777216 ∧ Q v H
def isTxt (Q : VK) : VK := fun v H => ∃ l : List Nat, v = T l ∧ Q v H
theorem z_lenO (M : MthK X.prog X.w X.K X.mg X.base k C "__len__" 1 [] gV sp) (room : Room (k + 3) X.A) (noG : X.A.guards = some []) : CallR X (.builtin "len") (rOwn1 C sp gV isLen) := by
  intro pins s σ H xs us Q I r h
  obtain ⟨a, dx, fs, rfl, ea, q⟩ := h
  obtain ⟨u, rfl, ru⟩ := vals1 r
  cases ru
  obtain ⟨ox, od, J⟩ := own_inst I ea
  obtain ⟨mm, fr⟩ := I.fr
  obtain ⟨f, hf, fn, go⟩ := run_own (E := X.xe) (A := X.A.in1) M ((room_in1 room).mono (by omega)) noG rfl I r rfl q
  refine PySem.W.len_K fr I.ok.mod.kin J hf fn (wpAny_mono go ?_ fun _ _ z => z)
  rintro v s' ⟨x, H', I', rx, n, rfl, hn, q'⟩
  obtain ⟨t, rfl⟩ := rx
  exact ⟨⟨Int.natCast_nonneg n, by have : (2 : Int) ^ 63 = 9223372036854775808 := by decide
                                   omega⟩, V.int n, H', I'.tok _, ⟨_, rfl⟩, q'⟩
theorem txt_back {pins : List (Addr × Obj)} {σ : L2.St} {Q : VK} {v : Value} {s' : Shared} (h : EP X pins σ (isTxt Q) v s') : PySem.W.StrBack (EP X pins σ Q) v s' := by
  obtain ⟨x, H', I', rx, l, rfl, q'⟩ := h
  obtain ⟨t, rfl⟩ := rx
  exact ⟨T l, H', I', ⟨t, rfl⟩, q'⟩
theorem z_reprO (M : MthK X.prog X.w X.K X.mg X.base k C "__repr__" 1 [] gV sp) (room : Room (k + 3) X.A) (noG : X.A.guards = some []) : CallR X (.builtin "repr") (rOwn1 C sp gV isTxt) := by
  intro pins s σ H xs us Q I r h
  obtain ⟨a, dx, fs, rfl, ea, q⟩ := h
  obtain ⟨u, rfl, ru⟩ := vals1 r
  cases ru
  obtain ⟨ox, od, J⟩ := own_inst I ea
  obtain ⟨mm, fr⟩ := I.fr
  obtain ⟨f, hf, fn, go⟩ := run_own (E := X.xe) (A := X.A.in1) M ((room_in1 room).mono (by omega)) noG rfl I r rfl q
  exact PySem.W.repr_K (room_in1 room).units0 fr I.ok.mod.kin J hf fn (wpAny_mono go (fun v s' z => txt_back z) fun _ _ z => z)
theorem z_strO (M : MthK X.prog X.w X.K X.mg X.base k C "__str__" 1 [] gV sp) (room : Room (k + 3) X.A) (noG : X.A.guards = some []) : CallR X (.type "str") (rOwn1 C sp gV isTxt) := by
  intro pins s σ H xs us Q I r h
  obtain ⟨a, dx, fs, rfl, ea, q⟩ := h
  obtain ⟨u, rfl, ru⟩ := vals1 r
  cases ru
  obtain ⟨ox, od, J⟩ := own_inst I ea
  have r2 := room_in1 (k := k + 1) (room_in1 room)
  obtain ⟨f, hf, fn, go⟩ := run_own (E := X.xe) (A := X.A.in1.in1) M (r2.mono (by omega)) noG rfl I r rfl q
  exact PySem.W.kso_call r2.units0 I.kIn J hf fn (wpAny_mono go (fun v s' z => txt_back z) fun _ _ z => z)
/-- own == of two instances of one class -/
def rEqO (C : Addr) (sp : Sp) (gV : List V → List V → List V) : R2 := fun x y H Q => ∃ a b dx dy fs gs, x = .ref a ∧ y = .ref b ∧ H a = some (.ins C dx fs) ∧ H b = some (.ins C dy gs) ∧ sp (gV [x, y] []) H (fun v H' => ∃ c, v = .bl c ∧ Q v H') (fun _ _ _ => False)
theorem z_eqO (M : MthK X.prog X.w X.K X.mg X.base k C "__eq__" 2 [] gV sp) (room : Room (k + 3) X.A) (noG : X.A.guards = some []) : OpR X (compareOp .Eq) (rEqO C sp gV) := by
  intro pins s σ H x y v u Q I rx ry h
  obtain ⟨a, b, dx, dy, fs, gs, rfl, rfl, ea, eb, q⟩ := h
  cases rx
  cases ry
  obtain ⟨ox, od, J⟩ := own_inst I ea
  obtain ⟨ox', od', J'⟩ := own_inst I eb
  obtain ⟨mm, fr⟩ := I.fr
  obtain ⟨f, hf, fn, go⟩ := run_own (E := X.xe) (A := X.A) M (room.mono (by omega)) noG rfl I (us := [.ref a, .ref b]) (vs := [.ref a, .ref b]) (.cons rfl (.cons rfl .nil)) rfl q
  refine PySem.W.cmp_K (op := .Eq) (tb := .ref C) room.units0 fr I.ok.mod.kin J J'.type (by simp [PySem.W.notFirst]) hf fn (wpAny_mono go ?_ fun _ _ z => z)
  rintro v s' ⟨z, H', I', rz, c, rfl, q'⟩
  cases rz
  exact ⟨V.bl c, H', I', rfl, q'⟩
end
end Z
namespace Z
open PySem PySem.Spec PyProof.Rows L2
section
variable {prog : Program} {w : World} {A : Around} {E : Value → Shared → Prop} {s : Shared}
theorem clamp_run (a c n : Nat) : sliceBounds (some (a : Int)) (some (c : Int)) none n = (((min a n : Nat) : Int), ((min c n : Nat) : Int), 1) := by
  have na : ¬ ((a : Int) < 0) := by omega
  have nc : ¬ ((c : Int) < 0) := by omega
  simp only [sliceBounds, Option.getD_none, na, nc, if_false, show (1 : Int) > 0 by decide, if_true]
  congr 1
  · omega
  · congr 1
    omega
/-- l[a:c] = b, whatever the places -/
theorem set_clamp {l b sl : Addr} {its new : Array Value} {n n2 : Nat} {vl vu : Value} {a c : Nat} {Q : Unit → Shared → Prop} (hac : a ≤ c)
    (e : s.heap.get? l = some { cls := .type "list", data := .seq its n }) (e2 : s.heap.get? b = some { cls := .type "list", data := .seq new n2 }) (hne : l ≠ b)
    (hs : s.heap.IsSliceOf sl vl vu .none) (pl : IsPart vl (some (a : Int))) (pu : IsPart vu (some (c : Int))) (room : its.size + new.size ≤ sizeLine)
    (h : Q () { s with heap := s.heap.update l (Obj.mapSeq fun xs => xs.extract 0 (min a its.size) ++ new ++ xs.extract (min c its.size) xs.size) }) : wpAny (model prog w) A (setItem (.ref l) (.ref sl) (.ref b)) Q E s := by
  have hl := PySem.IsL.isList e
  have hb := PySem.IsL.isList e2
  obtain ⟨os, hos, hcs, hds⟩ := id hs
  have tS : s.TypeIs (.ref sl) "slice" := ⟨os, hos, hcs⟩
  have other : Builtin.List.listSameRef (.ref l) (.ref b) = false := by unfold Builtin.List.listSameRef; exact beq_eq_false_iff_ne.mpr hne
  have top : (max ((min a its.size : Nat) : Int) ((min c its.size : Nat) : Int)).toNat = min c its.size := by omega
  have fits : ((fun xs : Array Value => xs.extract 0 (min a its.size) ++ new ++ xs.extract (min c its.size) xs.size) its).size ≤ sizeLine + 1 := by simp only [Array.size_append, Array.size_extract]; omega
  unfold setItem; try with_reducible refine wpAny_holding ?_
  first | refine wpAny_bind (wpAny_pure ?_) | skip
  refine wpAny_bind (wpAny_sequenceKey hl.typeIs (by decide) ?_)
  refine wpAny_bind (wpAny_callSpecial?_slot (name := Str.ofString "__setitem__") hl.typeIs slot_list_setitem (wpAny_call_entry slot_list_setitem hl.typeIs entry_list_setitem ?_ (args_list_setitem _ _ _)))
  show wpAny _ _ (Builtin.List.listSubscript? (.ref sl) >>= _) _ _ s; refine wpAny_bind ?_
  unfold Builtin.List.listSubscript?; refine wpAny_bind (wpAny_specialOf tS slice_no_index ?_)
  simp only [Option.isNone_none, if_true]; refine wpAny_pure ?_
  show wpAny _ _ (typeOf (.ref sl) >>= _) _ _ s; refine wpAny_bind (wpAny_typeOf tS ?_)
  first | rw [if_neg (by decide)] | refine PySem.W.KFB.if_not (by decide) ?_
  rw [listSliceParts_eq]; refine wpAny_bind (wpAny_bind (wpAny_field hos hds (x := .none) rfl (wpAny_bind (wpAny_listPart .none ?_))))
  rw [if_neg (show ¬ ((rawPart none == rawInt 0) = true) from Bool.false_ne_true)]
  refine wpAny_bind (wpAny_field hos hds (x := vl) rfl (wpAny_bind (wpAny_listPart pl (wpAny_bind (wpAny_field hos hds (x := vu) rfl (wpAny_bind (wpAny_listPart pu (wpAny_pure ?_))))))))
  first | simp only [other, Bool.false_eq_true, if_false] | refine PySem.W.KFB.if_not other ?_ | (dsimp only; rw [if_neg (by rw [other]; exact Bool.false_ne_true)])
  refine wpAny_bind (m := Builtin.List.listAllItems (.ref b) "must assign iterable to extended slice") ?_; unfold Builtin.List.listAllItems
  refine wpAny_bind (wpAny_typeOf hb.typeIs ?_); first | refine PySem.W.KFB.if_so (by decide) ?_ | rw [if_pos (by decide)] | simp only [beq_self_eq_true, Bool.true_or, if_true]
  unfold Builtin.List.listItems; refine wpAny_bind (wpAny_seqItems e2 rfl (wpAny_pure (wpAny_bind (wpAny_bind (wpAny_seqItems e rfl (wpAny_pure ?_))))))
  refine wpAny_bind (wpAny_of_eq ((sliceIndices_raw (some (a : Int)) (some (c : Int)) none its.size (by simp)).trans (congrArg (pure : Int × Int × Int → Sem (Int × Int × Int)) (clamp_run a c its.size))) ?_)
  show wpAny _ _ (if ((1 : Int) == 1) = true then _ else _) _ _ s; rw [if_pos (by decide)]; refine wpAny_bind (wpAny_rule ?_)
  first | simp only [notLongL room, Bool.false_eq_true, if_false] | refine PySem.W.KFB.if_not (notLongL room) ?_
  first | refine wpAny_bind (wpAny_pure ?_) | skip
  show wpAny _ _ (updateSeq l (fun xs => xs.extract 0 (((min a its.size : Nat) : Int)).toNat ++ new ++ xs.extract (max ((min a its.size : Nat) : Int) ((min c its.size : Nat) : Int)).toNat xs.size) >>= _) _ _ s
  rw [top, Int.toNat_natCast]
  refine wpAny_bind (wpAny_updateSeq (hz := Nat.le_trans (Nat.le_add_right _ _) room) (_hz' := fits) e rfl (wpAny_bind (wpAny_letGo ?_)))
  first | exact wpAny_bind (wpAny_pure (wpAny_pure ⟨.none, rfl, wpAny_pure h⟩)) | exact wpAny_pure ⟨.none, rfl, wpAny_pure h⟩
end
section
variable {X : Cx} {o : Expr} {lo hi : Option Expr} {to : TE} {tl th : TO} {p2 pos : Pos}
/-- l[a:c] = ys -/
def zSlS (x v : V) (lo hi : Option Int) (R : Hp → Prop) (H : Hp) : Prop := ∃ (l b : Addr) (a c : Nat) (xs ys : List V), x = .ref l ∧ v = .ref b ∧ lo = some (a : Int) ∧ hi = some (c : Int) ∧ H l = some (.lst xs) ∧ H b = some (.lst ys) ∧ l ≠ b ∧ a ≤ c ∧ xs.length + ys.length ≤ sz ∧
  R (upd H l (.lst (xs.take a ++ ys ++ xs.drop c)))
def gSlice (to : TE) (tl th : TO) : TG := fun v σ H Q => to σ H fun x H1 => tl σ H1 fun lo H2 => th σ H2 fun hi H3 => zSlS x v lo hi (Q σ) H3
theorem pg_slice (ho : PE X o to) (hl : PO X lo tl) (hu : PO X hi th)
    (ha : ∀ v, assign (.Subscript o (.Slice lo hi none p2) pos) X.env v = (do
      let ov ← holding [v] (eval o X.env)
      let iv ← holding [v, ov] (eval (.Slice lo hi none p2) X.env)
      standAt pos
      holding [v, ov, iv] (setItem ov iv v)
      release [iv, v, ov] []) := by intro _; rfl) : PG X (.Subscript o (.Slice lo hi none p2) pos) (gSlice to tl th) := by
  refine ⟨fun pins s σ H v u Q I r h => ?_⟩
  rw [ha]
  refine wpAny_bind (wpAny_holding (thn (ho.run pins s σ H _ I h) fun ov s1 ⟨x, H1, I1, r1, q1⟩ => wpAny_bind (wpAny_holding ?_)))
  refine wpAny_Slice (thn (hl.run pins s1 σ H1 _ I1 q1) fun vl s2 ⟨l', H2, I2, pl, q2⟩ => thn (hu.run pins s2 σ H2 _ I2 q2) fun vu s3 ⟨u', H3, I3, pu, q3⟩ => ?_)
  refine thn (po_none.run pins s3 σ H3 (fun o H4 => o = none ∧ H4 = H3) I3 ⟨rfl, rfl⟩) fun vn s4 ⟨n', H4, I4, pn, en, e4⟩ => ?_
  subst en e4
  obtain ⟨l, b, a, c, xs, ys, rfl, rfl, rfl, rfl, hL, hB, hne, hac, hz, q⟩ := q3
  cases r
  cases r1
  cases pn
  have I5 : Inv X pins σ H4 { s4 with heap := s4.heap.push { cls := .type "slice", data := .fields #[vl, vu, .none] } } := I4.kept (t' := s4.toks) fun b ob q => Heap.get?_push_of_some _ q
  obtain ⟨z1, its, n1, rv1, hl1, e1⟩ := I5.lstM hL
  obtain ⟨z2, its2, n2, rv2, hl2, e2⟩ := I5.lstM hB
  refine wpAny_bind (wpAny_standAt (wpAny_bind (wpAny_holding ?_)))
  refine set_clamp hac e1 e2 hne ⟨_, Heap.get?_push_size _ rfl, rfl, rfl⟩ pl pu (by rw [List.size_toArray, List.size_toArray, ← hl1, ← rv2.length, sz_eq]; exact hz) ?_
  refine wpAny_release ⟨σ, _, ?_, q⟩
  refine I5.lset (its' := its.take a ++ its2 ++ its.drop c) (t' := s4.toks) hL e1 ?_ (Vals.append (Vals.append (rv1.take _) rv2) (rv1.drop _)) ?_
  · have t1 : its.take (min a its.toArray.size) = its.take a := by
      rw [List.size_toArray]
      by_cases q : a ≤ its.length
      · rw [Nat.min_eq_left q]
      · rw [Nat.min_eq_right (by omega), List.take_length, List.take_of_length_le (by omega)]
    have t2 : its.drop (min c its.toArray.size) = its.drop c := by
      rw [List.size_toArray]
      by_cases q : c ≤ its.length
      · rw [Nat.min_eq_left q]
      · rw [Nat.min_eq_right (by omega), List.drop_length, List.drop_of_length_le (by omega)]
    rw [← t1, ← t2]
    exact splice_eq its its2 _ _
  · rw [List.length_append, List.length_append, List.length_take, List.length_drop, sz_eq]
    have : (its.length : Nat) = xs.length := hl1.symm
    have := rv2.length
    omega
end
section
variable {σ : L2.St} {H : Hp} {to : TE} {tl th : TO} {v : V} {Q : L2.St → Hp → Prop} {R : Hp → Prop} {l b : Addr} {xs ys : List V}
theorem gslice_ (h : to σ H fun x H1 => tl σ H1 fun lo H2 => th σ H2 fun hi H3 => zSlS x v lo hi (Q σ) H3) : gSlice to tl th v σ H Q := h
theorem zsls_ {lo hi : Int} (e1 : H l = some (.lst xs)) (e2 : H b = some (.lst ys)) (ne : l ≠ b) (h0 : 0 ≤ lo) (h1 : lo ≤ hi) (hz : xs.length + ys.length ≤ 16777216) (h : ∀ H', H' l = some (.lst (xs.take lo.toNat ++ ys ++ xs.drop hi.toNat)) → But l H H' → R H') :
    zSlS (.ref l) (.ref b) (some lo) (some hi) R H :=
  ⟨l, b, lo.toNat, hi.toNat, xs, ys, rfl, rfl, by rw [Int.toNat_of_nonneg h0], by rw [Int.toNat_of_nonneg (by omega)], e1, e2, ne, by omega, hz, h _ upd_same But.upd⟩
end
end Z
/-! Z, part T: starred targets; walks with any target; sums, texts put together. -/
namespace Z
open PySem PySem.Spec PyProof.Rows L2
/-! ### (a, *b) = a tuple or a list -/
section
variable {prog : Program} {w : World} {A : Around} {E : Value → Shared → Prop} {s : Shared}
theorem star_tail {l I i n : Nat} {items : Array Value} {T : String} {St : Nat → Heap → Prop} {h1 : Heap} {Q : List Value → Shared → Prop} (hi : i < n) (hn : n ≤ items.size + 1) (hz : items.size ≤ 16384)
    (hTm : T = "str_ascii_iterator" ∨ T = "str_iterator" ∨ T = "list_iterator" ∨ T = "tuple_iterator") (W : PySem.Walks prog w A.in1 I [I, l] [I] items.size (fun i v => items[i]? = some v) St)
    (hT : ∀ i (u : Shared), St i u.heap → u.TypeIs (.ref I) T) (st : St i h1) (lI : I < h1.objs.size) (ll : l < h1.objs.size)
    (k1 : ∀ b o, b ≠ I → s.heap.get? b = some o → h1.get? b = some o) (nI : s.heap.objs.size ≤ I)
    (h : ∀ (h2 : Heap) (tk : Nat), (∀ b o, s.heap.get? b = some o → h2.get? b = some o) → Q (items.toList.take i ++ [.ref h2.objs.size] ++ (items.toList.drop i).drop (items.size + 1 - n)) { s with heap := h2.push { cls := .type "list", data := .seq ((items.toList.drop i).take (items.size + 1 - n)).toArray }, toks := tk }) :
    wpAny (model prog w) A (do
      let rest ← holding (items.toList.take i) (collect (.ref I))
      let after := n - 1 - i
      if rest.length < after then
        rule "unpack.star.too-few"
        raiseError "ValueError" s!"not enough values to unpack (expected at least {n - 1}, got {i + rest.length})"
      let mid := rest.length - after
      return items.toList.take i ++ [← newList (rest.take mid)] ++ rest.drop mid) Q E { s with heap := h1 } := by
  refine wpAny_bind (wpAny_holding (PySem.W.kun_collect (s := { s with heap := h1 }) hTm W hT (k := i) (by omega) st lI ll (fun h2 tk hk => ?_) (by rw [sizeLine_eq]; omega)))
  have hrl : (items.toList.drop i).length = items.size - i := by rw [List.length_drop, Array.length_toList]
  have hmid : (items.toList.drop i).length - (n - 1 - i) = items.size + 1 - n := by rw [hrl]; omega
  show wpAny _ _ (if (items.toList.drop i).length < n - 1 - i then _ else _) _ _ _
  rw [if_neg (by rw [hrl]; omega)]
  show wpAny _ _ (newList ((items.toList.drop i).take ((items.toList.drop i).length - (n - 1 - i))) >>= fun d => pure (items.toList.take i ++ [d] ++ (items.toList.drop i).drop ((items.toList.drop i).length - (n - 1 - i)))) _ _ _
  rw [hmid]
  have kk : ∀ b o, s.heap.get? b = some o → h2.get? b = some o := fun b o e => by
    have nb : b ≠ I := Nat.ne_of_lt (Nat.lt_of_lt_of_le (Heap.lt_size e) nI)
    exact hk b o nb (k1 b o nb e)
  exact wpAny_bind (wpAny_newList (s := { s with heap := h2, toks := tk }) (wpAny_pure (h h2 tk kk)) (by rw [List.length_take, hrl, sizeLine_eq]; omega))
theorem star_tup {l n i : Nat} {items : Array Value} {Q : List Value → Shared → Prop} (hl : IsTup s.heap l items) (hh : A.handled = none) (hi : i < n) (hn : n ≤ items.size + 1) (hz : items.size ≤ 16384)
    (h : ∀ (h2 : Heap) (tk : Nat), (∀ b o, s.heap.get? b = some o → h2.get? b = some o) → Q (items.toList.take i ++ [.ref h2.objs.size] ++ (items.toList.drop i).drop (items.size + 1 - n)) { s with heap := h2.push { cls := .type "list", data := .seq ((items.toList.drop i).take (items.size + 1 - n)).toArray }, toks := tk }) :
    wpAny (model prog w) A (unpackItems (.ref l) n (some i)) Q E s := by
  have nl : l ≠ s.heap.objs.size := by obtain ⟨o, ho, _⟩ := hl; exact Nat.ne_of_lt (Heap.lt_size ho)
  unfold unpackItems
  refine wpAny_bind ?_
  unfold notIterableAtAll
  refine wpAny_bind (wpAny_specialOf hl.typeIs slot_tuple_iter.lookup (wpAny_pure ?_))
  simp only [Bool.false_eq_true, if_false]
  refine wpAny_bind (wpAny_holding (iter_tuple hl (wpAny_bind (wpAny_holding (draw_tuple nl i 0 _ _ ⟨_, Heap.get?_push_size _ rfl, rfl, rfl⟩ (hl.push _) (by omega) fun h1 it1 sb => ?_)))))
  have hl1 : IsTup h1 l items := (hl.push _).extBut sb.extBut nl
  rw [Nat.zero_add] at it1
  obtain ⟨oi, hoi, _⟩ := id it1
  obtain ⟨ol, hol, _⟩ := id hl1
  rw [List.drop_zero]
  have few : (items.toList.take i).length = i := by rw [List.length_take, Array.length_toList]; omega
  rw [if_neg (show ¬ ((items.toList.take i).length < i) by rw [few]; omega)]
  exact star_tail (s := s) (I := s.heap.objs.size) hi hn hz (.inr (.inr (.inr rfl))) (Walks.tuple (A := A.in1) hh s.heap.objs.size l nl items) (fun j u st => st.1.typeIs) ⟨it1, hl1⟩ (Heap.lt_size hoi) (Heap.lt_size hol)
    (fun b o nb e => sb.extBut b o nb (Heap.get?_push_of_some _ e)) (Nat.le_refl _) h
theorem star_lst {l n i : Nat} {items : Array Value} {Q : List Value → Shared → Prop} (hl : s.heap.IsList l items) (hh : A.handled = none) (hi : i < n) (hn : n ≤ items.size + 1) (hz : items.size ≤ 16384)
    (h : ∀ (h2 : Heap) (tk : Nat), (∀ b o, s.heap.get? b = some o → h2.get? b = some o) → Q (items.toList.take i ++ [.ref h2.objs.size] ++ (items.toList.drop i).drop (items.size + 1 - n)) { s with heap := h2.push { cls := .type "list", data := .seq ((items.toList.drop i).take (items.size + 1 - n)).toArray }, toks := tk }) :
    wpAny (model prog w) A (unpackItems (.ref l) n (some i)) Q E s := by
  have nl : l ≠ s.heap.objs.size := by obtain ⟨o, ho, _⟩ := hl; exact Nat.ne_of_lt (Heap.lt_size ho)
  unfold unpackItems
  refine wpAny_bind ?_
  unfold notIterableAtAll
  refine wpAny_bind (wpAny_specialOf hl.typeIs slot_list_iter.lookup (wpAny_pure ?_))
  simp only [Bool.false_eq_true, if_false]
  refine wpAny_bind (wpAny_holding (wpAny_pyIter_list hl (wpAny_bind (wpAny_holding (PySem.W.kun_draw nl i 0 _ _ ⟨_, Heap.get?_push_size _ rfl, rfl, rfl⟩ (hl.push _) (by omega) fun h1 it1 sb => ?_)))))
  have hl1 : h1.IsList l items := (hl.push _).extBut sb.extBut nl
  rw [Nat.zero_add] at it1
  obtain ⟨oi, hoi, _⟩ := id it1
  obtain ⟨ol, hol, _⟩ := id hl1
  rw [List.drop_zero]
  have few : (items.toList.take i).length = i := by rw [List.length_take, Array.length_toList]; omega
  rw [if_neg (show ¬ ((items.toList.take i).length < i) by rw [few]; omega)]
  exact star_tail (s := s) (I := s.heap.objs.size) hi hn hz (.inr (.inr (.inl rfl))) (Walks.list (A := A.in1) hh s.heap.objs.size l nl items) (fun j u st => st.1.typeIs) ⟨it1, hl1⟩ (Heap.lt_size hoi) (Heap.lt_size hol)
    (fun b o nb e => sb.extBut b o nb (Heap.get?_push_of_some _ e)) (Nat.le_refl _) h
end
def gStar (K : PySem.W.Frag) (n i : Nat) (t : TGs) : TG := fun v σ H Q => ∃ a xs, v = .ref a ∧ (SqT K H a xs ∨ H a = some (.lst xs)) ∧ i < n ∧ n ≤ xs.length + 1 ∧ xs.length ≤ 16384 ∧
  ∀ p, H p = none → t (xs.take i ++ [.ref p] ++ (xs.drop i).drop (xs.length + 1 - n)) σ (upd H p (.lst ((xs.drop i).take (xs.length + 1 - n)))) Q
section
variable {X : Cx} {pos : Pos}
theorem pgs_star {e : Expr} {es : List Expr} {p : Pos} {t : TG} {u : TGs} (first : PG X e t) (more : PGs X es u)
    (hs : (assignEach (.Starred e p :: es) X.env).map (·.2) = assign e X.env :: (assignEach es X.env).map (·.2) := by rfl) : PGs X (.Starred e p :: es) (gCons t u) := by
  refine ⟨fun pins s σ H vs us Q I r h => ?_⟩
  obtain ⟨v, vr, rfl, h⟩ := h
  cases r with
  | cons rv rr =>
    rw [hs]
    exact assignInOrder_cons (thn (first.run pins s σ H _ _ _ I rv h) fun _ s1 ⟨σ1, H1, I1, q1⟩ => more.run pins s1 σ1 H1 _ _ Q I1 rr q1)
theorem pg_star {es : List Expr} {k : Nat} {t : TGs} {n i : Nat} (hc : X.calm = true) (h : PGs X es t)
    (hn : (assignEach es X.env).length = n := by rfl) (hst : (assignEach es X.env).findIdx? (·.1) = some i := by rfl) : PG X (.Tuple es k pos) (gStar X.K n i t) := by
  refine ⟨fun pins s σ H v u Q I r hw => ?_⟩
  obtain ⟨a, xs, rfl, hq, hi, hl, hz, hw⟩ := hw
  cases r
  rw [assign_Tuple]
  refine wpAny_bind (wpAny_standAt ?_)
  unfold unpack
  rw [hn, hst]
  have fin : ∀ (its : List Value) (h2 : Heap) (tk : Nat), Vals xs its → (∀ b o, s.heap.get? b = some o → h2.get? b = some o) →
      wpAny (model X.prog X.w) X.A (assignInOrder ((assignEach es X.env).map (·.2)) (its.toArray.toList.take i ++ [.ref h2.objs.size] ++ (its.toArray.toList.drop i).drop (its.toArray.size + 1 - n))) (fun _ s' => ∃ σ' H', Inv X pins σ' H' s' ∧ Q σ' H') X.xe
        { s with heap := h2.push { cls := .type "list", data := .seq ((its.toArray.toList.drop i).take (its.toArray.size + 1 - n)).toArray }, toks := tk } := by
    intro its h2 tk rv kk
    have I1 : Inv X pins σ H { s with heap := h2, toks := tk } := I.kept kk
    have e1 : its.toArray.size = xs.length := by rw [List.size_toArray, rv.length]
    rw [e1]
    simp only []
    have I2 := I1.lnew (t' := tk) (ys := (xs.drop i).take (xs.length + 1 - n)) (its := (its.drop i).take (xs.length + 1 - n)) ((rv.drop i).take _) (by rw [List.length_take, List.length_drop, sz_eq]; unfold sz; omega)
    have q := hw h2.objs.size (I1.hok.fresh (Nat.le_refl _))
    exact h.run pins _ σ _ _ _ Q I2 (((rv.take i).append (.cons (show L2.RelV (.ref h2.objs.size) (.ref h2.objs.size) from rfl) .nil)).append ((rv.drop i).drop _)) q
  rcases hq with hq | hq
  · obtain ⟨its, rv, ht, hz2⟩ := I.tuple hq
    exact wpAny_bind (wpAny_holding (star_tup ht (I.ok.hd hc) hi (by rw [List.size_toArray, ← rv.length]; exact hl) (by rw [List.size_toArray, ← rv.length]; exact hz) fun h2 tk kk => fin its h2 tk rv kk))
  · obtain ⟨z1, its, n1, rv, hl1, e1⟩ := I.lstM hq
    exact wpAny_bind (wpAny_holding (star_lst (PySem.IsL.isList e1) (I.ok.hd hc) hi (by rw [List.size_toArray, ← rv.length]; exact hl) (by rw [List.size_toArray, ← rv.length]; exact hz) fun h2 tk kk => fin its h2 tk rv kk))
end
section
variable {σ : L2.St} {H : Hp} {D : Ends} {t u ts tb : TS} {te ta tc to : TE} {tt : TT} {tr : TA} {Q : VK} {K : PySem.W.Frag} {x y v : V} {i j n : Nat} {a b p : Addr} {g g1 g2 : TG} {xs ys : List V}
theorem gstarT_ {tg : TGs} {R : L2.St → Hp → Prop} (e : H a = some (.tup xs)) (h1 : i < n) (h2 : n ≤ xs.length + 1) (h3 : xs.length ≤ 16384)
    (h : ∀ p H', H p = none → Ex H H' → H' p = some (.lst ((xs.drop i).take (xs.length + 1 - n))) → tg (xs.take i ++ [.ref p] ++ (xs.drop i).drop (xs.length + 1 - n)) σ H' R) : gStar K n i tg (.ref a) σ H R :=
  ⟨a, xs, rfl, .inl (SqT.of e), h1, h2, h3, fun p hp => h p _ hp (Ex.new hp) upd_same⟩
theorem gstarL_ {tg : TGs} {R : L2.St → Hp → Prop} (e : H a = some (.lst xs)) (h1 : i < n) (h2 : n ≤ xs.length + 1) (h3 : xs.length ≤ 16384)
    (h : ∀ p H', H p = none → Ex H H' → H' p = some (.lst ((xs.drop i).take (xs.length + 1 - n))) → tg (xs.take i ++ [.ref p] ++ (xs.drop i).drop (xs.length + 1 - n)) σ H' R) : gStar K n i tg (.ref a) σ H R :=
  ⟨a, xs, rfl, .inr e, h1, h2, h3, fun p hp => h p _ hp (Ex.new hp) upd_same⟩
/-! ### walks with any target -/
theorem forLg {xs : List V} (Pv : Nat → L2.St → Hp → Prop) (h0 : Pv 0 σ H) (hl : ∀ i σ H, i ≤ xs.length → Pv i σ H → SqL K H a xs)
    (hs : ∀ (i : Nat) (x : V) σ H, xs[i]? = some x → Pv i σ H → g x σ H fun σ2 H2 => tb { D with nx := Pv (i + 1), ct := Pv (i + 1), bk := D.nx } σ2 H2) (hd : ∀ σ H, Pv xs.length σ H → D.nx σ H) :
    zFor g tb D σ (Itl K a) H := by
  refine forZ walk_list Pv h0 hl ?_ hd
  rintro i x σ H _ hi p ⟨rfl, hx⟩
  exact hs i x σ _ hx p
/-- enumerate of a list: the pair is taken apart at once -/
theorem forEnL {tg : TGs} {xs : List V} (Pv : Nat → L2.St → Hp → Prop) (h0 : Pv 0 σ H) (hl : ∀ i σ H, i ≤ xs.length → Pv i σ H → SqL K H a xs)
    (hs : ∀ (i : Nat) (x : V) σ H H', xs[i]? = some x → Pv i σ H → Ex H H' → tg [.int (i : Nat), x] σ H' fun σ2 H2 => tb { D with nx := Pv (i + 1), ct := Pv (i + 1), bk := D.nx } σ2 H2) (hd : ∀ σ H, Pv xs.length σ H → D.nx σ H) :
    zFor (gTup K 2 tg) tb D σ (Ite K a) H := by
  refine forZ walk_enum Pv h0 hl ?_ hd
  rintro i x σ H _ hi p ⟨q, a1, a2, rfl, hq, rfl, e1, e2⟩
  obtain rfl : V.int (i : Nat) = a1 := Option.some.inj e1
  exact ⟨q, _, rfl, SqT.of upd_same, rfl, hs i a2 σ H _ e2 p (Ex.new hq)⟩
theorem forZip {tg : TGs} {xs ys : List V} (Pv : Nat → L2.St → Hp → Prop) (h0 : Pv 0 σ H) (hn : xs.length = ys.length) (hl : ∀ i σ H, i ≤ xs.length → Pv i σ H → SqL K H a xs ∧ SqL K H b ys)
    (hs : ∀ (i : Nat) (x y : V) σ H H', xs[i]? = some x → ys[i]? = some y → Pv i σ H → Ex H H' → tg [x, y] σ H' fun σ2 H2 => tb { D with nx := Pv (i + 1), ct := Pv (i + 1), bk := D.nx } σ2 H2) (hd : ∀ σ H, Pv xs.length σ H → D.nx σ H) :
    zFor (gTup K 2 tg) tb D σ (Itz K a b) H := by
  refine forZ (walk_zip (n := xs.length) (by rw [← hn, Nat.min_self])) Pv h0 hl ?_ hd
  rintro i x σ H _ hi p ⟨q, a1, a2, rfl, hq, rfl, e1, e2⟩
  exact ⟨q, _, rfl, SqT.of upd_same, rfl, hs i a1 a2 σ H _ e1 e2 p (Ex.new hq)⟩
def zEnL (K : PySem.W.Frag) (R : It → Hp → Prop) (vs : List V) (H : Hp) : Prop := ∃ a xs, vs = [.ref a] ∧ SqL K H a xs ∧ R (Ite K a) H
theorem ienL_ {R : It → Hp → Prop} (h : tr σ H (zEnL K R)) : iEnum K tr σ H R := h
theorem zenL_ {R : It → Hp → Prop} (e : H a = some (.lst xs)) (h : R (Ite K a) H) : zEnL K R [.ref a] H := ⟨a, xs, rfl, SqL.of e, h⟩
def zZip (K : PySem.W.Frag) (R : It → Hp → Prop) (vs : List V) (H : Hp) : Prop := ∃ a b xs ys, vs = [.ref a, .ref b] ∧ SqL K H a xs ∧ SqL K H b ys ∧ R (Itz K a b) H
theorem izip_ {R : It → Hp → Prop} (h : tr σ H (zZip K R)) : iZip K tr σ H R := h
theorem zzip_ {R : It → Hp → Prop} (e : H a = some (.lst xs)) (e2 : H b = some (.lst ys)) (h : R (Itz K a b) H) : zZip K R [.ref a, .ref b] H := ⟨a, b, xs, ys, rfl, SqL.of e, SqL.of e2, h⟩
/-- range(a, b, c), upward -/
def zRng3 (R : It → Hp → Prop) (vs : List V) (H : Hp) : Prop := ∃ (i j c : Int) (n : Nat), vs = [.int i, .int j, .int c] ∧ RgC i j c n ∧ R (Itc i c n) H
theorem irng3_ {R : It → Hp → Prop} (h : tr σ H (zRng3 R)) : iRng3 tr σ H R := h
/-- a comprehension over a list: any target, no test, each item the item of ys -/
theorem lcLg {vs : List Nat} {g : TG} (hx : SqL K H a xs) (hn : ys.length = xs.length) (hz : ys.length < 16777216)
    (hs : ∀ (D : Addr) (i : Nat) (x : V) H1, H D = none → xs[i]? = some x → Lm H ys D i H1 → g x (wipe σ vs) H1 fun σ2 H3 => wipe σ2 vs = wipe σ vs ∧ te σ2 H3 (zPut1 D (Lm H ys D (i + 1))))
    (hd : ∀ D H1, H D = none → Ex H H1 → H1 D = some (.lst ys) → Q (.ref D) H1) : zLc g tYes te vs σ Q (Itl K a) H := by
  refine lcW walk_list (Lm H ys) (fun D H1 hD e h => ⟨e, by rw [h]; simp⟩) (fun D i H' _ m => m.ex.seqL hx) ?_ ?_
  · rintro D i x H1 _ hD hi m ⟨rfl, hx⟩
    exact hs D i x _ hD hx m
  · intro D H1 hD m
    refine hd D H1 hD m.ex ?_
    rw [m.at_, ← hn, List.take_length]
theorem lcRC {vs : List Nat} {lo c : Int} {n : Nat} (hn : ys.length = n) (hz : ys.length < 16777216) (hw : ∀ x, wipe (List.set (wipe σ vs) j (some x)) vs = wipe σ vs)
    (hs : ∀ (D : Addr) (i : Nat) H1, H D = none → i < n → Lm H ys D i H1 → te (List.set (wipe σ vs) j (some (.int (lo + (i : Nat) * c)))) H1 (zPut1 D (Lm H ys D (i + 1))))
    (hd : ∀ D H1, H D = none → Ex H H1 → H1 D = some (.lst ys) → Q (.ref D) H1) : zLc (gName j) tYes te vs σ Q (Itc lo c n) H := by
  refine lcW walk_rangeC (Lm H ys) (fun D H1 hD e h => ⟨e, by rw [h]; simp⟩) (fun D i H' _ m => trivial) ?_ ?_
  · rintro D i x H1 _ hD hi m ⟨rfl, rfl⟩
    exact ⟨hw _, hs D i _ hD hi m⟩
  · intro D H1 hD m
    refine hd D H1 hD m.ex ?_
    rw [m.at_, ← hn, List.take_length]
theorem lcR {vs : List Nat} {lo : Int} {n : Nat} (hn : ys.length = n) (hz : ys.length < 16777216) (hw : ∀ x, wipe (List.set (wipe σ vs) j (some x)) vs = wipe σ vs)
    (hs : ∀ (D : Addr) (i : Nat) H1, H D = none → i < n → Lm H ys D i H1 → te (List.set (wipe σ vs) j (some (.int (lo + (i : Nat))))) H1 (zPut1 D (Lm H ys D (i + 1))))
    (hd : ∀ D H1, H D = none → Ex H H1 → H1 D = some (.lst ys) → Q (.ref D) H1) : zLc (gName j) tYes te vs σ Q (Itr lo n) H := by
  refine lcW walk_range (Lm H ys) (fun D H1 hD e h => ⟨e, by rw [h]; simp⟩) (fun D i H' _ m => trivial) ?_ ?_
  · rintro D i x H1 _ hD hi m ⟨rfl, rfl⟩
    exact ⟨hw _, hs D i _ hD hi m⟩
  · intro D H1 hD m
    refine hd D H1 hD m.ex ?_
    rw [m.at_, ← hn, List.take_length]
end
/-! ### sums, any, all, texts -/
section
variable {X : Cx}
theorem z_sum (hc : X.calm = true) : CallR X (.builtin "sum") (rSum X.K) := cr_sum hc
theorem z_any (hc : X.calm = true) : CallR X (.builtin "any") (rAny X.K) := cr_any hc
theorem z_all (hc : X.calm = true) : CallR X (.builtin "all") (rAll X.K) := cr_all hc
def rStrS : List V → Hp → VK → Prop := fun xs H Q => ∃ l : List Nat, xs = [T l] ∧ Q (T l) H
def rStrZ : List V → Hp → VK → Prop := fun xs H Q => rStrI xs H Q ∨ rStrS xs H Q
theorem z_strZ : CallR X (.type "str") rStrZ := by
  intro pins s σ H xs us Q I r h
  rcases h with h | ⟨l, rfl, q⟩
  · exact z_str_i pins s σ H xs us Q I r h
  · exact SkE.call_str_str pins s σ H _ us Q I r ⟨_, rfl, q⟩
def rListOf (K : PySem.W.Frag) : List V → Hp → VK → Prop := fun xs H Q => ∃ p ys, xs = [.ref p] ∧ (SqL K H p ys ∨ SqT K H p ys) ∧ zNew (.lst ys) H Q
theorem z_list_of : CallR X (.type "list") (rListOf X.K) := call_list_of
def rTupOf (K : PySem.W.Frag) : List V → Hp → VK → Prop := fun xs H Q => ∃ p ys, xs = [.ref p] ∧ ((SqL K H p ys ∧ zNew (.tup ys) H Q) ∨ (SqT K H p ys ∧ Q (.ref p) H))
theorem z_tuple_of : CallR X (.type "tuple") (rTupOf X.K) := call_tuple_of
end
section
variable {σ : L2.St} {H : Hp} {Q : VK} {K : PySem.W.Frag} {a : Addr} {xs : List V} {t te : TE} {ts : List TE} {acc : List Nat}
theorem sum_ {ns : List Int} (e : H a = some (.lst (ns.map V.int))) (h : Q (.int ns.sum) H) : rSum K [.ref a] H Q := ⟨a, ns, rfl, SqL.of e, h⟩
theorem any_ {bs : List Bool} (e : H a = some (.lst (bs.map V.bl))) (h : Q (.bl (bs.any id)) H) : rAny K [.ref a] H Q := ⟨a, bs, rfl, SqL.of e, h⟩
theorem all_ {bs : List Bool} (e : H a = some (.lst (bs.map V.bl))) (h : Q (.bl (bs.all id)) H) : rAll K [.ref a] H Q := ⟨a, bs, rfl, SqL.of e, h⟩
theorem strZI_ {n : Int} (e1 : -18446744073709551616 < n) (e2 : n < 18446744073709551616) (h : Q (T (intL n)) H) : rStrZ [.int n] H Q := .inl ⟨n, rfl, e1, e2, h⟩
theorem strZS_ {l : List Nat} (h : Q (T l) H) : rStrZ [T l] H Q := .inr ⟨l, rfl, h⟩
theorem listof_ (e : H a = some (.lst xs)) (h : ∀ p H', H p = none → Ex H H' → H' p = some (.lst xs) → Q (.ref p) H') : rListOf K [.ref a] H Q := ⟨a, xs, rfl, .inl (SqL.of e), new_ h⟩
theorem listofU_ (e : H a = some (.tup xs)) (h : ∀ p H', H p = none → Ex H H' → H' p = some (.lst xs) → Q (.ref p) H') : rListOf K [.ref a] H Q := ⟨a, xs, rfl, .inr (SqT.of e), new_ h⟩
theorem tupof_ (e : H a = some (.lst xs)) (h : ∀ p H', H p = none → Ex H H' → H' p = some (.tup xs) → Q (.ref p) H') : rTupOf K [.ref a] H Q := ⟨a, xs, rfl, .inl ⟨SqL.of e, new_ h⟩⟩
theorem tupofU_ (e : H a = some (.tup xs)) (h : Q (.ref a) H) : rTupOf K [.ref a] H Q := ⟨a, xs, rfl, .inr ⟨SqT.of e, h⟩⟩
/-! texts put together -/
def zJs (ts : List TE) (acc : List Nat) (σ : L2.St) (R : Str → Hp → Prop) (x : V) (H : Hp) : Prop := ∃ y : Str, x = .str y ∧ ((⟨acc.toArray⟩ : Str) ++ y).length ≤ sizeLine ∧ tJs ts ((⟨acc.toArray⟩ : Str) ++ y) σ H R
theorem joined_ {R : Str → Hp → Prop} (h : tJs ts (⟨([] : List Nat).toArray⟩ : Str) σ H R) : tJs ts Str.empty σ H R := h
theorem js_ {R : Str → Hp → Prop} (h : t σ H (zJs ts acc σ R)) : tJs (t :: ts) (⟨acc.toArray⟩ : Str) σ H R := h
theorem zjs_ {R : Str → Hp → Prop} {l : List Nat} (e : acc.length + l.length ≤ 16777216) (h : tJs ts (⟨(acc ++ l).toArray⟩ : Str) σ H R) : zJs ts acc σ R (T l) H := by
  refine ⟨_, rfl, ?_, ?_⟩
  · rw [str_app, str_len, List.length_append, sz_eq]; exact e
  · rw [str_app]; exact h
theorem jsn_ {R : Str → Hp → Prop} (h : R (⟨acc.toArray⟩ : Str) H) : tJs [] (⟨acc.toArray⟩ : Str) σ H R := h
def zFmt (Q : VK) (x : V) (H : Hp) : Prop := (∃ y : Str, x = .str y ∧ y.length ≤ sizeLine ∧ Q (.str y) H) ∨ ∃ i : Int, x = .int i ∧ i.natAbs.log2 < 1920 ∧ Q (.str (toString i)) H
theorem fmt_ (h : te σ H (zFmt Q)) : tFmt te σ H Q := h
theorem zfmtS_ {l : List Nat} (e : l.length ≤ 16777216) (h : Q (T l) H) : zFmt Q (T l) H := .inl ⟨_, rfl, by rw [str_len, sz_eq]; exact e, h⟩
theorem zfmtI_ {n : Int} (e1 : -18446744073709551616 < n) (e2 : n < 18446744073709551616) (h : Q (T (intL n)) H) : zFmt Q (.int n) H := by
  refine .inr ⟨n, rfl, int_le e1 e2, ?_⟩
  have e : T (intL n) = V.str (Str.ofString (toString n)) := by unfold intL; exact congrArg V.str (str_eta _).symm
  rw [e] at h
  exact h
end
end Z
namespace Z
open PySem PySem.Spec PyProof.Rows L2
theorem rgc_up {j c : Int} (hc : 0 < c) (hc2 : c < 1073741824) (h0 : 0 ≤ j) (h1 : j < 16777217) : RgC 0 j c ((j + c - 1) / c).toNat := by
  refine ⟨by omega, by omega, ?_, ?_⟩
  · unfold Builtin.Range.small
    rw [rangeSize_pos (by omega) h0]
    have h2 : 0 ≤ (j + c - 1) / c := Int.ediv_nonneg (by omega) (by omega)
    have h3 : (j + c - 1) / c < 16777218 := by
      rw [Int.ediv_lt_iff_lt_mul hc]
      have : 16777218 * 1 ≤ 16777218 * c := Int.mul_le_mul_of_nonneg_left (by omega) (by omega)
      have : 1 * c ≤ c := by omega
      omega
    have fit : ∀ x : Int, -1000000000000 < x → x < 1000000000000 → Builtin.Range.rangeFitsLong x = true := fun x a b => by
      unfold Builtin.Range.rangeFitsLong
      have e : (2 : Int) ^ 63 = 9223372036854775808 := by decide
      rw [e, decide_eq_true (by omega), decide_eq_true (by omega)]
      rfl
    rw [fit 0 (by omega) (by omega), fit j (by omega) (by omega), fit c (by omega) (by omega), fit _ (by omega) (by omega), if_pos hc, fit (j + (c - 1)) (by omega) (by omega), Bool.or_true]
    rfl
  · rw [rangeSize_pos (by omega) h0, Int.toNat_of_nonneg (Int.ediv_nonneg (by omega) (by omega))]
section
variable {σ : L2.St} {H : Hp} {D : Ends} {te ta tv : TE} {g1 g2 : TG} {u : TS} {K : PySem.W.Frag} {f : Str} {R : It → Hp → Prop}
theorem zrng3_ {j c : Int} (hc : 0 < c) (hc2 : c < 1073741824) (h0 : 0 ≤ j) (h1 : j < 16777217) (h : R (Itc 0 c ((j + c - 1) / c).toNat) H) : zRng3 R [.int 0, .int j, .int c] H := ⟨0, j, c, _, rfl, rgc_up hc hc2 h0 h1, h⟩
theorem asg2_ (h : te σ H fun x H1 => g1 x σ H1 fun σ1 H2 => g2 x σ1 H2 D.nx) : tAsg2 te g1 g2 D σ H := h
theorem seq_asg2 (h : te σ H fun x H1 => g1 x σ H1 fun σ1 H2 => g2 x σ1 H2 (u D)) : tSeq (tAsg2 te g1 g2) u D σ H := h
def zFldA (K : PySem.W.Frag) (f : Str) (tv : TE) (rd : V → V → Hp → VK → Prop) (N : L2.St → Hp → Prop) (σ : L2.St) (x : V) (H : Hp) : Prop := ∃ a C dx fs v, x = .ref a ∧ H a = some (.ins C dx fs) ∧ Cls K C ∧ NoAttr K C f ∧ fs.lookup f = some v ∧
  tv σ H fun y H2 => rd v y H2 fun z H3 => ∃ dx' fs', H3 a = some (.ins C dx' fs') ∧ fs'.length < 1000 ∧ N σ (upd H3 a (.ins C dx' (putF f z fs')))
theorem fldA_ {rd : V → V → Hp → VK → Prop} (h : ta σ H (zFldA K f tv rd D.nx σ)) : sFldAug K ta tv rd f D σ H := h
theorem seq_fldA {rd : V → V → Hp → VK → Prop} (h : ta σ H (zFldA K f tv rd (u D) σ)) : tSeq (sFldAug K ta tv rd f) u D σ H := h
end
end Z
namespace Z
open PySem PySem.Spec PyProof.Rows L2
section
variable {σ : L2.St} {H : Hp} {tv : TE} {K : PySem.W.Frag} {f : Str} {a C dx : Addr} {fs : List (Str × V)} {v z : V} {Q : VK} {N : L2.St → Hp → Prop} {rd : V → V → Hp → VK → Prop}
def zSetA (a C : Addr) (f : Str) (N : L2.St → Hp → Prop) (σ : L2.St) (z : V) (H : Hp) : Prop := ∃ dx' fs', H a = some (.ins C dx' fs') ∧ fs'.length < 1000 ∧ N σ (upd H a (.ins C dx' (putF f z fs')))
theorem zfldA_ (e : H a = some (.ins C dx fs)) (c : Cls K C) (n : NoAttr K C f) (l : fs.lookup f = some v) (h : tv σ H fun y H2 => rd v y H2 (zSetA a C f N σ)) : zFldA K f tv rd N σ (.ref a) H :=
  ⟨a, C, dx, fs, v, rfl, e, c, n, l, h⟩
theorem zsetA_ {fs' : List (Str × V)} (e : H a = some (.ins C dx fs)) (l : fs.length < 1000) (p : putF f z fs = fs') (h : ∀ H', H' a = some (.ins C dx fs') → But a H H' → N σ H') : zSetA a C f N σ z H :=
  ⟨dx, fs, e, l, h _ (by rw [upd_same, p]) But.upd⟩
theorem addA_ {n m : Int} (h : Q (.int (n + m)) H) : rAdd (.int n) (.int m) H Q := ⟨n, m, rfl, rfl, h⟩
theorem subA_ {n m : Int} (h : Q (.int (n - m)) H) : rSub (.int n) (.int m) H Q := ⟨n, m, rfl, rfl, h⟩
theorem own1_ {sp : Sp} {gV : List V → List V → List V} {P : VK → VK} (e : H a = some (.ins C dx fs)) (h : zSp sp (gV [.ref a] []) H (P Q) (fun _ _ _ => False)) : rOwn1 C sp gV P [.ref a] H Q := ⟨a, dx, fs, rfl, e, h⟩
theorem isLen_ {n : Nat} (l : n ≤ 16777216) (h : Q (.int n) H) : isLen Q (.int n) H := ⟨n, rfl, l, h⟩
theorem isTxt_ {l : List Nat} (h : Q (T l) H) : isTxt Q (T l) H := ⟨l, rfl, h⟩
end
theorem kb_all {K : PySem.W.Frag} {fd : FuncData} {ps : List Str} {n : Nat} (h : ∀ us : List Value, us.length = n → bindArgs fd ⟨us, []⟩ = pure (ps.zip us)) : KBn K fd ps n [] (fun us _ => us) (fun vs _ => vs) :=
  ⟨fun s us ws X l1 l2 => by
    have e : ([] : List Str).zip ws = [] := rfl
    rw [e]
    exact BindsTo.of_eq (h us l1), fun r _ => r⟩
end Z
namespace Z
open PySem PySem.Spec PyProof.Rows L2
section
variable {σ : L2.St} {H : Hp} {ta tb tc : TE} {r r' : R2} {Q : VK} {y : V}
def zLink (r' : R2) (tc : TE) (σ : L2.St) (Q : VK) (y : V) (z : V) (H : Hp) : Prop := ∃ k, z = .bl k ∧ (if k = true then tc σ H fun w' H4 => r' y w' H4 Q else Q (.bl false) H)
theorem chain_ (h : ta σ H fun x H1 => tb σ H1 fun y H2 => r x y H2 (zLink r' tc σ Q y)) : tChain r r' ta tb tc σ H Q := h
theorem zlink_d {q : Prop} [Decidable q] (h1 : q → tc σ H fun w' H4 => r' y w' H4 Q) (h2 : ¬ q → Q (.bl false) H) : zLink r' tc σ Q y (.bl (decide q)) H := by
  refine ⟨_, rfl, ?_⟩
  by_cases h : q
  · rw [decide_eq_true h, if_pos rfl]; exact h1 h
  · rw [decide_eq_false h, if_neg Bool.false_ne_true]; exact h2 h
theorem zlink_dt {q : Prop} [Decidable q] (hq : q) (h : tc σ H fun w' H4 => r' y w' H4 Q) : zLink r' tc σ Q y (.bl (decide q)) H := zlink_d (fun _ => h) fun n => absurd hq n
theorem zlink_df {q : Prop} [Decidable q] (hq : ¬ q) (h : Q (.bl false) H) : zLink r' tc σ Q y (.bl (decide q)) H := zlink_d (fun n => absurd n hq) fun _ => h
end
/-! ### what stands but for some places -/
def Bs (fp : List Addr) (H H' : Hp) : Prop := ∀ b o, b ∉ fp → H b = some o → H' b = some o
def Dj (f g : List Addr) : Prop := ∀ x ∈ f, x ∉ g
def Own (H : Hp) (fp : List Addr) : Prop := ∀ x ∈ fp, (∃ xs, H x = some (.lst xs)) ∨ ∃ C d fs, H x = some (.ins C d fs)
/-- places of old, or new ones -/
def Grow (H : Hp) (f f' : List Addr) : Prop := ∀ x ∈ f', x ∈ f ∨ H x = none
theorem Ex.bs {fp : List Addr} {H H' : Hp} (e : Ex H H') : Bs fp H H' := fun b o _ h => e b o h
theorem But.bs {l : Addr} {H H' : Hp} (e : But l H H') : Bs [l] H H' := fun b o n h => e b o (fun z => n (by rw [z]; exact List.mem_cons_self)) h
theorem Bs.but {l : Addr} {H H' : Hp} (e : Bs [l] H H') : But l H H' := fun b o n h => e b o (fun z => n (List.mem_singleton.mp z)) h
theorem Bs.trans {fp : List Addr} {H H1 H2 : Hp} (a : Bs fp H H1) (b : Bs fp H1 H2) : Bs fp H H2 := fun c o n h => b c o n (a c o n h)
theorem Bs.ext {fp : List Addr} {H H1 H2 : Hp} (a : Bs fp H H1) (b : Ex H1 H2) : Bs fp H H2 := fun c o n h => b c o (a c o n h)
theorem Ex.bst {fp : List Addr} {H H1 H2 : Hp} (a : Ex H H1) (b : Bs fp H1 H2) : Bs fp H H2 := fun c o n h => b c o n (a c o h)
theorem Bs.refl (fp : List Addr) (H : Hp) : Bs fp H H := fun _ _ _ h => h
theorem Bs.mono {f g : List Addr} {H H' : Hp} (a : Bs f H H') (s : ∀ x ∈ f, x ∈ g) : Bs g H H' := fun b o n h => a b o (fun z => n (s b z)) h
theorem Bs.at_ {fp : List Addr} {H H' : Hp} {a : Addr} {o : HO} (e : Bs fp H H') (n : a ∉ fp) (h : H a = some o) : H' a = some o := e a o n h
/-- a change of new places alone -/
theorem Bs.ex {fp : List Addr} {H H' : Hp} (e : Bs fp H H') (n : ∀ x ∈ fp, H x = none) : Ex H H' := fun b o h => e b o (fun z => by rw [n b z] at h; cases h) h
/-- places that H0 does not know may change -/
theorem Bs.old {fp gp : List Addr} {H0 H H' : Hp} (b : Bs fp H H') (a : Bs gp H0 H) (n : ∀ x ∈ fp, x ∈ gp ∨ H0 x = none) : Bs gp H0 H' := fun c o nc h => b c o (fun z => by
  rcases n c z with q | q
  · exact nc q
  · rw [q] at h; cases h) (a c o nc h)
theorem Own.tup {H : Hp} {fp : List Addr} (w : Own H fp) {t : Addr} {xs : List V} (h : H t = some (.tup xs)) : t ∉ fp := fun m => by
  rcases w t m with ⟨ys, e⟩ | ⟨C, d, fs, e⟩
  · rw [e] at h; cases h
  · rw [e] at h; cases h
theorem Own.new {H : Hp} {fp : List Addr} (w : Own H fp) {t : Addr} (h : H t = none) : t ∉ fp := fun m => by
  rcases w t m with ⟨ys, e⟩ | ⟨C, d, fs, e⟩
  · rw [e] at h; cases h
  · rw [e] at h; cases h
theorem Own.ex {H H' : Hp} {fp : List Addr} (w : Own H fp) (e : Ex H H') : Own H' fp := fun x m => by
  rcases w x m with ⟨ys, h⟩ | ⟨C, d, fs, h⟩
  · exact .inl ⟨ys, e _ _ h⟩
  · exact .inr ⟨C, d, fs, e _ _ h⟩
theorem Dj.symm {f g : List Addr} (d : Dj f g) : Dj g f := fun x hx hf => d x hf hx
/-- of what grows, nothing comes to another one's places -/
theorem Dj.grow {H : Hp} {f f' g : List Addr} (d : Dj f g) (gr : Grow H f f') (w : Own H g) : Dj f' g := fun x hx hg => by
  rcases gr x hx with z | z
  · exact d x z hg
  · exact w.new z hg
theorem Dj.new {H : Hp} {f g : List Addr} (gr : ∀ x ∈ f, H x = none) (w : Own H g) : Dj f g := fun x hx hg => w.new (gr x hx) hg
theorem Grow.refl (H : Hp) (f : List Addr) : Grow H f f := fun x h => .inl h
end Z
/-! Z, part K: the rules with the written part named (within a comprehension it must be told). -/
namespace Z
open PySem PySem.Spec PyProof.Rows L2
section
variable {X : Cx} {K : PySem.W.Frag}
theorem k_add (e : X.K = K := by rfl) : OpR X (binaryOp .Add) (rAddZ K) := e ▸ z_add
theorem k_eq (hu : X.A.units + 64 < cLine) (e : X.K = K := by rfl) : OpR X (compareOp .Eq) (rEqZ K) := e ▸ z_eq hu
theorem k_ne (hu : X.A.units + 64 < cLine) (e : X.K = K := by rfl) : OpR X (compareOp .NotEq) (rNeZ K) := e ▸ z_ne hu
theorem k_in (e : X.K = K := by rfl) : OpR X (compareOp .In) (rInZ K) := e ▸ z_in
theorem k_ni (e : X.K = K := by rfl) : OpR X (compareOp .NotIn) (rNiZ K) := e ▸ z_ni
theorem k_ix (e : X.K = K := by rfl) : IxR X (rIxZ K) := e ▸ z_ix
theorem k_sl (e : X.K = K := by rfl) : SlR X (rSlZ K) := e ▸ z_sl
theorem k_len (e : X.K = K := by rfl) : CallR X (.builtin "len") (rLenZ K) := e ▸ z_len
theorem k_repr (hu : X.A.units + 64 < cLine) (ng : X.A.guards = some []) (e : X.K = K := by rfl) : CallR X (.builtin "repr") (rRepr K) := e ▸ z_repr hu ng
theorem k_isi (e : X.K = K := by rfl) : CallR X (.builtin "isinstance") (rIsZ K) := e ▸ z_isi
theorem k_sum (hc : X.calm = true) (e : X.K = K := by rfl) : CallR X (.builtin "sum") (rSum K) := e ▸ z_sum hc
theorem k_any (hc : X.calm = true) (e : X.K = K := by rfl) : CallR X (.builtin "any") (rAny K) := e ▸ z_any hc
theorem k_all (hc : X.calm = true) (e : X.K = K := by rfl) : CallR X (.builtin "all") (rAll K) := e ▸ z_all hc
theorem k_min1 (hc : X.calm = true) (e : X.K = K := by rfl) : CallR X (.builtin "min") (rMin K) := e ▸ z_min1 hc
theorem k_max1 (hc : X.calm = true) (e : X.K = K := by rfl) : CallR X (.builtin "max") (rMax K) := e ▸ z_max1 hc
theorem k_list_of (e : X.K = K := by rfl) : CallR X (.type "list") (rListOf K) := e ▸ z_list_of
theorem k_tuple_of (e : X.K = K := by rfl) : CallR X (.type "tuple") (rTupOf K) := e ▸ z_tuple_of
theorem k_get (e : X.K = K := by rfl) : PGet X (gList K) := e ▸ get_list
section
variable {a o v : Expr} {b : Expr} {ta tb to te : TE} {rest : List Expr} {pos : Pos} {tg : Expr} {f : Str}
theorem k_truth (ha : PE X a ta) (he : ∀ whole, isTrue a X.env whole = (do let v ← whole; standAt a.pos; holding [v] (truthy v))) (e : X.K = K := by rfl) : PT X a (tTruth K ta) := e ▸ z_truth ha he
theorem k_orT (ha : PE X a ta) (hb : PE X (.BoolOp .Or (b :: rest) pos) tb) (e : X.K = K := by rfl) : PE X (.BoolOp .Or (a :: b :: rest) pos) (tOrT K ta tb) := e ▸ pe_orT ha hb
theorem k_andT (ha : PE X a ta) (hb : PE X (.BoolOp .And (b :: rest) pos) tb) (e : X.K = K := by rfl) : PE X (.BoolOp .And (a :: b :: rest) pos) (tAndT K ta tb) := e ▸ pe_andT ha hb
theorem k_notT (ha : PE X a ta) (e : X.K = K := by rfl) : PE X (.UnaryOp .Not a pos) (tNotT K ta) := e ▸ pe_notT ha
theorem k_fld (he : PE X a ta) (hb : attributeBase a f X.env (eval a X.env) = eval a X.env) (e : X.K = K := by rfl) : PE X (.Attribute a f pos) (tFld K ta f) := e ▸ pe_fld he hb
theorem k_list (hl : PE X a ta) (e : X.K = K := by rfl) : PI X tg a (iList K ta) := e ▸ pi_list hl
theorem k_tupI (hl : PE X a ta) (e : X.K = K := by rfl) : PI X tg a (iTup K ta) := e ▸ pi_tup hl
theorem k_join {apos : Pos} (ho : PE X o to) (he : PE X a te) (hs : starEach [a] X.env = [(false, eval a X.env)] := by rfl) (hbase : attributeBase o "join" X.env (eval o X.env) = eval o X.env := by rfl) (hline : (apos.endLine == pos.line) = true := by rfl) (e : X.K = K := by rfl) :
    PE X (.Call (.Attribute o "join" apos) [a] [] pos) (tM1 (rJoin K) to te) := e ▸ z_join ho he hs hbase hline
end
section
variable {es : List Expr} {k n i : Nat} {t : TGs} {pos : Pos}
theorem k_tup (hc : X.calm = true) (h : PGs X es t) (hn : (assignEach es X.env).length = n := by rfl) (hst : (assignEach es X.env).findIdx? (·.1) = none := by rfl) (e : X.K = K := by rfl) : PG X (.Tuple es k pos) (gTup K n t) := e ▸ pg_tup hc h hn hst
theorem k_star (hc : X.calm = true) (h : PGs X es t) (hn : (assignEach es X.env).length = n := by rfl) (hst : (assignEach es X.env).findIdx? (·.1) = some i := by rfl) (e : X.K = K := by rfl) : PG X (.Tuple es k pos) (gStar K n i t) := e ▸ pg_star hc h hn hst
end
section
variable {e : Expr} {es : List Expr} {ta : TA} {p pos tpos : Pos} {elts : List Expr} {kk : Nat}
theorem k_enum (hg : Gl X "enumerate") (hm : X.mg "enumerate" = none) (ha : PA X [e] ta) (hs : starEach [e] X.env = [(false, eval e X.env)] := by rfl) (q : X.K = K := by rfl) :
    PI X (.Tuple elts kk tpos) (.Call (.Name "enumerate" p) [e] [] pos) (iEnum K ta) := q ▸ pi_enum hg hm ha hs
theorem k_zip {e2 : Expr} (hg : Gl X "zip") (hm : X.mg "zip" = none) (ha : PA X [e, e2] ta)
    (hs : starEach [e, e2] X.env = (false, eval e X.env) :: starEach [e2] X.env := by rfl) (hpl : (backTo pos (starEach [e2] X.env)).any (·.1) = false := by rfl) (q : X.K = K := by rfl) :
    PI X (.Tuple elts kk tpos) (.Call (.Name "zip" p) [e, e2] [] pos) (iZip K ta) := q ▸ pi_zip hg hm ha hs hpl
end
end
end Z
namespace Z
open PySem PySem.Spec PyProof.Rows L2
section
variable {σ : L2.St} {H : Hp} {tu : TT} {Q : Bool → Hp → Prop} {R : VK} {ta tb te : TE} {tt : TT} {D : Addr} {N : Hp → Prop}
theorem zor_nT (h : tu σ H Q) : zOr tu σ Q (!true) H := h
theorem zor_nF (h : Q true H) : zOr tu σ Q (!false) H := h
theorem zand_nT (h : Q false H) : zAnd tu σ Q (!true) H := h
theorem zand_nF (h : tu σ H Q) : zAnd tu σ Q (!false) H := h
theorem zife_t (h : ta σ H R) : zIfE ta tb σ R true H := h
theorem zife_f (h : tb σ H R) : zIfE ta tb σ R false H := h
theorem zife_dt {q : Prop} [Decidable q] (hq : q) (h : ta σ H R) : zIfE ta tb σ R (decide q) H := zife_d (fun _ => h) fun n => absurd hq n
theorem zife_df {q : Prop} [Decidable q] (hq : ¬ q) (h : tb σ H R) : zIfE ta tb σ R (decide q) H := zife_d (fun n => absurd n hq) fun _ => h
end
end Z
namespace Z
open PySem PySem.Spec PyProof.Rows L2
section
variable {H : Hp} {Q : VK} {a : Addr} {xs : List V}
theorem mulL {k : Int} (e : H a = some (.lst xs)) (h0 : -9223372036854775808 ≤ k) (h1 : k < 9223372036854775808) (h2 : xs.length * k.toNat ≤ 16777216)
    (h : ∀ p H', H p = none → Ex H H' → H' p = some (.lst (List.replicate k.toNat xs).flatten) → Q (.ref p) H') : rMulZ (.ref a) (.int k) H Q :=
  .inr (.inr ⟨a, k, xs, rfl, rfl, e, h0, h1, by rw [sz_eq]; exact h2, new_ h⟩)
theorem rep_list (v : V) (n : Nat) : (List.replicate n [v]).flatten = List.replicate n v := by
  induction n with
  | zero => rfl
  | succ n ih => rw [List.replicate_succ, List.flatten_cons, ih, List.replicate_succ]; rfl
end
theorem zw_ {α : Type} {a b : α} {p : Prop} (e : a = b) (h : p) : a = b ∧ p := ⟨e, h⟩
theorem sum_lens : ∀ bks : List (List Nat), (bks.map fun l => ((l.length : Nat) : Int)).sum = (bks.flatten.length : Nat)
  | [] => rfl
  | l :: r => by rw [List.map_cons, List.sum_cons, sum_lens r, List.flatten_cons, List.length_append]; omega
end Z
namespace Z
open PySem PySem.Spec PyProof.Rows L2
section
variable {σ : L2.St} {H : Hp} {tt : TT} {te : TE} {Q : VK} {K : PySem.W.Frag} {vs : List Nat} {a b : Addr} {tg : TGs} {g : TG}
/-- [.. for i, c in enumerate(text, n) if ..] -/
theorem lcEnT {l : List Nat} {n : Int} (Pv : Addr → Nat → Hp → Prop) (h0 : ∀ D H1, H D = none → Ex H H1 → H1 D = some (.lst []) → Pv D 0 H1)
    (hs : ∀ D i c H1 H2, H D = none → l[i]? = some c → Pv D i H1 → Ex H1 H2 → tg [.int (n + (i : Nat)), T [c]] (wipe σ vs) H2 fun σ2 H3 => wipe σ2 vs = wipe σ vs ∧ tt σ2 H3 (zPut te D (Pv D (i + 1)) σ2))
    (hd : ∀ D H1, H D = none → Pv D l.length H1 → Q (.ref D) H1) : zLc (gTup K 2 tg) tt te vs σ Q (Itn l n) H := by
  refine lcW walk_enumT Pv h0 (fun _ _ _ _ _ => trivial) ?_ hd
  rintro D i x H1 H2 hD hi p ⟨q, a1, a2, rfl, hq, rfl, e1, e2⟩
  obtain rfl : V.int (n + (i : Nat)) = a1 := Option.some.inj e1
  obtain ⟨c, hc, rfl⟩ := Option.map_eq_some_iff.mp e2
  exact ⟨q, _, rfl, SqT.of upd_same, rfl, hs D i c H1 _ hD hc p (Ex.new hq)⟩
theorem lcEnL {xs : List V} (Pv : Addr → Nat → Hp → Prop) (h0 : ∀ D H1, H D = none → Ex H H1 → H1 D = some (.lst []) → Pv D 0 H1) (hl : ∀ D i H', Pv D i H' → SqL K H' a xs)
    (hs : ∀ D (i : Nat) x H1 H2, H D = none → xs[i]? = some x → Pv D i H1 → Ex H1 H2 → tg [.int (i : Nat), x] (wipe σ vs) H2 fun σ2 H3 => wipe σ2 vs = wipe σ vs ∧ tt σ2 H3 (zPut te D (Pv D (i + 1)) σ2))
    (hd : ∀ D H1, H D = none → Pv D xs.length H1 → Q (.ref D) H1) : zLc (gTup K 2 tg) tt te vs σ Q (Ite K a) H := by
  refine lcW walk_enum Pv h0 (fun D i H' _ p => hl D i H' p) ?_ hd
  rintro D i x H1 H2 hD hi p ⟨q, a1, a2, rfl, hq, rfl, e1, e2⟩
  obtain rfl : V.int (i : Nat) = a1 := Option.some.inj e1
  exact ⟨q, _, rfl, SqT.of upd_same, rfl, hs D i a2 H1 _ hD e2 p (Ex.new hq)⟩
/-- [.. for x in list if ..] by an invariant -/
theorem lcLi {xs : List V} (Pv : Addr → Nat → Hp → Prop) (h0 : ∀ D H1, H D = none → Ex H H1 → H1 D = some (.lst []) → Pv D 0 H1) (hl : ∀ D i H', Pv D i H' → SqL K H' a xs)
    (hs : ∀ D (i : Nat) x H1, H D = none → xs[i]? = some x → Pv D i H1 → g x (wipe σ vs) H1 fun σ2 H3 => wipe σ2 vs = wipe σ vs ∧ tt σ2 H3 (zPut te D (Pv D (i + 1)) σ2))
    (hd : ∀ D H1, H D = none → Pv D xs.length H1 → Q (.ref D) H1) : zLc g tt te vs σ Q (Itl K a) H := by
  refine lcW walk_list Pv h0 (fun D i H' _ p => hl D i H' p) ?_ hd
  rintro D i x H1 _ hD hi p ⟨rfl, hx⟩
  exact hs D i x _ hD hx p
end
theorem intL_bit {b : Nat} (h : b ≤ 1) : intL (b : Int) = [48 + b] := by
  have : b = 0 ∨ b = 1 := by omega
  rcases this with rfl | rfl
  · unfold intL; decide +kernel
  · unfold intL; decide +kernel
end Z
/-! Z, part L: list(range(..)); slices of lists with a step. -/
namespace Z
open PySem PySem.Spec PyProof.Rows L2
/-- the items that a slice picks -/
def pickL {α : Type} (l : List α) (lo hi st : Option Int) : List α := (sliceRange (sliceBounds lo hi st l.length).1 (sliceBounds lo hi st l.length).2.1 (sliceBounds lo hi st l.length).2.2).filterMap (l[·]?)
theorem pick_map {α β : Type} (f : α → β) (l : List α) (lo hi st : Option Int) : pickL (l.map f) lo hi st = (pickL l lo hi st).map f := by
  unfold pickL
  rw [List.length_map, List.map_filterMap]
  congr 1
  funext i
  rw [List.getElem?_map]
theorem pick_mem {α : Type} {l : List α} {lo hi st : Option Int} {x : α} (h : x ∈ pickL l lo hi st) : x ∈ l := by
  unfold pickL at h
  obtain ⟨i, _, e⟩ := List.mem_filterMap.mp h
  exact List.mem_of_getElem? e
theorem pick_arr (its : List Value) (lo hi st : Option Int) : slicePick its.toArray lo hi st = (pickL its lo hi st).toArray := by
  unfold slicePick pickL
  rw [List.size_toArray]
  simp
theorem pick_len {α : Type} (l : List α) (lo hi st : Option Int) : (pickL l lo hi st).length ≤ l.length := by
  have h := slicePick_size_le (l.map fun _ => Value.none).toArray lo hi st
  rw [pick_arr, pick_map, List.size_toArray, List.length_map, List.size_toArray, List.length_map] at h
  exact h
theorem pick_vals {xs : List V} {us : List Value} (r : Vals xs us) (lo hi st : Option Int) : Vals (pickL xs lo hi st) (pickL us lo hi st) := by
  unfold pickL
  rw [r.length]
  generalize sliceRange _ _ _ = js
  induction js with
  | nil => exact .nil
  | cons j js ih =>
    rw [List.filterMap_cons, List.filterMap_cons]
    cases hx : xs[j]? with
    | none =>
      have : us[j]? = none := by
        rw [List.getElem?_eq_none_iff] at hx ⊢
        rw [← r.length]; exact hx
      rw [this]
      exact ih
    | some x =>
      obtain ⟨u, hu, ru⟩ := r.get hx
      rw [hu]
      exact .cons ru ih
section
variable {X : Cx}
def zSlT (K : PySem.W.Frag) (x : V) (lo hi st : Option Int) (H : Hp) (Q : VK) : Prop := ∃ (a : Addr) (xs : List V), x = .ref a ∧ SqL K H a xs ∧ st ≠ some 0 ∧ zNew (.lst (pickL xs lo hi st)) H Q
def tSlT (K : PySem.W.Frag) (te : TE) (tl th ts : TO) : TE := fun σ H Q => te σ H fun x H1 => tl σ H1 fun lo H2 => th σ H2 fun hi H3 => ts σ H3 fun st H4 => zSlT K x lo hi st H4 Q
theorem k_slT {K : PySem.W.Frag} {e : Expr} {lo hi st : Option Expr} {te : TE} {tl th ts : TO} {p3 pos : Pos} (he : PE X e te) (hl : PO X lo tl) (hu : PO X hi th) (hst : PO X st ts)
    (hsub : ∀ v u, subscripted (.Slice lo hi st p3) false v u = operate [v, u] (getItem v u) := by intro _ _; rfl) (q : X.K = K := by rfl) :
    PE X (.Subscript e (.Slice lo hi st p3) pos) (tSlT K te tl th ts) := by
  subst q
  refine ⟨fun pins s σ H Q I h => ?_⟩
  refine Subscript_ (thn (he.run pins s σ H _ I h) fun v s1 ⟨x, H1, I1, r1, q1⟩ => ?_)
  refine wpAny_Slice (thn (hl.run pins s1 σ H1 _ I1 q1) fun vl s2 ⟨l', H2, I2, pl, q2⟩ => thn (hu.run pins s2 σ H2 _ I2 q2) fun vu s3 ⟨u', H3, I3, pu, q3⟩ => thn (hst.run pins s3 σ H3 _ I3 q3) fun vs s4 ⟨t', H4, I4, ps, q4⟩ => ?_)
  obtain ⟨a, xs, rfl, hx, h0, q⟩ := q4
  cases r1
  have I5 : Inv X pins σ H4 { s4 with heap := s4.heap.push { cls := .type "slice", data := .fields #[vl, vu, vs] } } := I4.kept (t' := s4.toks) fun b ob q => Heap.get?_push_of_some _ q
  obtain ⟨its, r, ht, hz1⟩ := I5.list hx
  have hlen := r.length
  show wpAny (model X.prog X.w) X.A (subscriptTail e (.Slice lo hi st p3) (.ref a) (.ref s4.heap.objs.size)) (EP X pins σ Q) X.xe _
  refine tail_any (ops := [.ref a, .ref s4.heap.objs.size]) ht.isList.typeIs (PySem.slot_list_getitem.lookup) ?_ (hsub _ _)
  refine wpAny_getItem_list_slice ht.isList (Heap.IsSliceOf.new _ vl vu vs) pl pu ps h0 ?_ (by rw [List.size_toArray]; omega)
  rw [pick_arr]
  exact ⟨.ref _, _, I5.lnew (t' := s4.toks) (pick_vals r l' u' t') (Nat.le_trans (pick_len xs l' u' t') hz1), rfl, q _ (I5.hok.fresh (Nat.le_refl _))⟩
/-- range as a value -/
def rRng1 : List V → Hp → VK → Prop := fun vs H Q => (∃ n : Int, vs = [.int n] ∧ zNew (.rng 0 n) H Q) ∨ ∃ m n : Int, vs = [.int m, .int n] ∧ zNew (.rng m n) H Q
theorem z_range : CallR X (.type "range") rRng1 := by
  intro pins s σ H vs us Q I r h
  rcases h with ⟨n, rfl, q⟩ | ⟨m, n, rfl, q⟩
  · obtain ⟨u, rfl, t, rfl⟩ := vals1 r
    refine call_range_1 ⟨.ref s.heap.objs.size, _, I.laid (t' := s.toks + 1 + 1) (o := .rng 0 n) (fun b o e => Heap.get?_push_of_some _ e) (Nat.le_refl _) ?_, rfl, q _ (I.hok.fresh (Nat.le_refl _))⟩
    exact ⟨s.toks, t, s.toks + 1, Heap.get?_push_size _ rfl⟩
  · obtain ⟨u1, u2, rfl, ri, rj⟩ := vals2 r
    obtain ⟨t, rfl⟩ := ri
    obtain ⟨u, rfl⟩ := rj
    refine call_range_2 ⟨.ref s.heap.objs.size, _, I.laid (t' := s.toks + 1) (o := .rng m n) (fun b o e => Heap.get?_push_of_some _ e) (Nat.le_refl _) ?_, rfl, q _ (I.hok.fresh (Nat.le_refl _))⟩
    exact ⟨t, u, s.toks, Heap.get?_push_size _ rfl⟩
def rListR (K : PySem.W.Frag) : List V → Hp → VK → Prop := fun xs H Q => rListOf K xs H Q ∨ ∃ (p : Addr) (m : Int) (n : Nat), xs = [.ref p] ∧ H p = some (.rng m (m + n)) ∧ -16777216 ≤ m ∧ m ≤ 16777216 ∧ n ≤ 16777216 ∧ zNew (.lst ((List.range n).map fun i => V.int (m + (i : Nat)))) H Q
theorem k_listR {K : PySem.W.Frag} (hc : X.calm = true) (e : X.K = K := by rfl) : CallR X (.type "list") (rListR K) := by
  subst e
  intro pins s σ H xs us Q I r h
  rcases h with h | ⟨p, m, n, rfl, hp, m0, m1, hn, q⟩
  · exact z_list_of pins s σ H xs us Q I r h
  · obtain ⟨u, rfl, ru⟩ := vals1 r
    cases ru
    obtain ⟨t, t2, t3, ho⟩ := I.hok p _ hp
    have fit : ∀ x : Int, -1000000000000 < x → x < 1000000000000 → Builtin.Range.rangeFitsLong x = true := fun x a b => by
      unfold Builtin.Range.rangeFitsLong
      have e : (2 : Int) ^ 63 = 9223372036854775808 := by decide
      rw [e, decide_eq_true (by omega), decide_eq_true (by omega)]
      rfl
    have hsz : Builtin.Range.rangeSize m (m + n) 1 = n := by
      unfold Builtin.Range.rangeSize
      rw [if_pos (by decide)]
      split
      · rw [Int.ediv_one]; omega
      · omega
    have hsm : Builtin.Range.small m (m + n) 1 = true := by
      unfold Builtin.Range.small
      rw [hsz, fit m (by omega) (by omega), fit _ (by omega) (by omega), fit 1 (by omega) (by omega), fit n (by omega) (by omega), if_pos (by decide), fit (m + n + (1 - 1)) (by omega) (by omega), Bool.or_true]
      rfl
    refine call_list_range (n := n) (I.ok.hd hc) ho hsm hsz (by omega) fun h' tk acc c k hS hi => ?_
    have e1 : acc.size = n := hi.1
    refine ⟨.ref _, _, I.laid (t' := tk) (o := .lst ((List.range n).map fun i => V.int (m + (i : Nat)))) k (Nat.le_refl _) ?_, rfl, q _ (I.hok.fresh (Nat.le_refl _))⟩
    refine ⟨by rw [List.length_map, List.length_range, sz_eq]; exact hn, acc.toList, c, ?_, by rw [hS]⟩
    have : ∀ (ns : List Int) (l : List Value), ns.length = l.length → (∀ (i : Nat) (v : Value), l[i]? = some v → ∃ (t : Tok) (x : Int), ns[i]? = some x ∧ v = Value.int x t) → Vals (ns.map V.int) l := by
      intro ns
      induction ns with
      | nil =>
        intro l hl _
        cases l with
        | nil => exact .nil
        | cons _ _ => cases hl
      | cons x ns ih =>
        intro l hl h
        cases l with
        | nil => cases hl
        | cons v l =>
          obtain ⟨t, y, h1, h2⟩ := h 0 v rfl
          cases h1
          exact .cons ⟨t, h2⟩ (ih l (Nat.succ.inj hl) fun i w hw => h (i + 1) w hw)
    have z := this ((List.range n).map fun i => (m + (i : Nat) : Int)) acc.toList (by rw [List.length_map, List.length_range, Array.length_toList, e1]) (fun i v hv => by
      have hv' : acc[i]? = some v := by rw [← Array.getElem?_toList]; exact hv
      obtain ⟨t, ht⟩ := hi.2 i v hv'
      have hi2 : i < n := by
        have := (List.getElem?_eq_some_iff.mp hv).1
        rw [Array.length_toList, e1] at this
        exact this
      refine ⟨t, m + (i : Nat), by rw [List.getElem?_map, List.getElem?_range hi2]; rfl, ?_⟩
      rw [ht, Int.mul_one])
    rw [List.map_map] at z
    exact z
end
section
variable {σ : L2.St} {H : Hp} {Q : VK} {K : PySem.W.Frag} {a : Addr} {xs : List V} {te : TE} {tl th ts : TO}
theorem slT_ (h : te σ H fun x H1 => tl σ H1 fun lo H2 => th σ H2 fun hi H3 => ts σ H3 fun st H4 => zSlT K x lo hi st H4 Q) : tSlT K te tl th ts σ H Q := h
theorem zslT_ {lo hi st : Option Int} (e : H a = some (.lst xs)) (h0 : st ≠ some 0) (h : ∀ p H', H p = none → Ex H H' → H' p = some (.lst (pickL xs lo hi st)) → Q (.ref p) H') : zSlT K (.ref a) lo hi st H Q :=
  ⟨a, xs, rfl, SqL.of e, h0, new_ h⟩
theorem rng1_ {n : Int} (h : ∀ p H', H p = none → Ex H H' → H' p = some (.rng 0 n) → Q (.ref p) H') : rRng1 [.int n] H Q := .inl ⟨n, rfl, new_ h⟩
theorem rng2_ {m n : Int} (h : ∀ p H', H p = none → Ex H H' → H' p = some (.rng m n) → Q (.ref p) H') : rRng1 [.int m, .int n] H Q := .inr ⟨m, n, rfl, new_ h⟩
theorem listR_ (h : rListOf K [.ref a] H Q) : rListR K [.ref a] H Q := .inl h
theorem listRng_ {m k : Int} (e : H a = some (.rng m k)) (h0 : -16777216 ≤ m) (h1 : m ≤ 16777216) (h2 : m ≤ k) (h3 : k ≤ m + 16777216) (h : ∀ p H', H p = none → Ex H H' → H' p = some (.lst ((List.range (k - m).toNat).map fun i => V.int (m + (i : Nat)))) → Q (.ref p) H') : rListR K [.ref a] H Q :=
  .inr ⟨a, m, (k - m).toNat, rfl, by rw [e, Int.toNat_of_nonneg (by omega)]; congr 2; omega, h0, h1, by omega, new_ h⟩
end
end Z
namespace Z
open PySem PySem.Spec PyProof.Rows L2
section
variable {σ : L2.St} {H : Hp} {Q : VK} {K : PySem.W.Frag} {a : Addr} {xs : List V} {te : TE}
def zRevL (K : PySem.W.Frag) (Q : VK) (x : V) (H : Hp) : Prop := ∃ a xs, x = .ref a ∧ SqL K H a xs ∧ ∀ p, H p = none → Q (.ref p) (upd H p (.lst xs.reverse))
theorem revL_ (h : te σ H (zRevL K Q)) : tRevL K te σ H Q := h
theorem zrevL_ (e : H a = some (.lst xs)) (h : ∀ p H', H p = none → Ex H H' → H' p = some (.lst xs.reverse) → Q (.ref p) H') : zRevL K Q (.ref a) H := ⟨a, xs, rfl, SqL.of e, new_ h⟩
end
end Z
namespace Z
open PySem PySem.Spec PyProof.Rows L2
theorem cutV_from (l : List V) (n : Int) (h : 0 ≤ n) : cutV l (some n) none = l.drop n.toNat := by
  unfold cutV HT.sIx
  simp only [if_neg (show ¬ n < 0 by omega)]
  by_cases g : n.toNat ≤ l.length
  · rw [Nat.min_eq_left g, List.take_of_length_le (by rw [List.length_drop]; omega)]
  · rw [Nat.min_eq_right (show l.length ≤ n.toNat by omega), List.drop_eq_nil_of_le (Nat.le_refl _), List.drop_eq_nil_of_le (show l.length ≤ n.toNat by omega)]
    simp
end Z
/-! Z, part N: what a call binds, told by the written part -/
namespace Z
open PySem PySem.Spec PyProof.Rows L2
/-- keywords in another order -/
def permL {α : Type} (is : List Nat) (l : List α) : List α := is.filterMap fun i => l[i]?
theorem vals_at {zs : List V} {ws : List Value} (r : Vals zs ws) : ∀ i : Nat, (∃ (z : V) (w : Value), zs[i]? = some z ∧ ws[i]? = some w ∧ RelV z w) ∨ (zs[i]? = none ∧ ws[i]? = none) := by
  induction r with
  | nil => exact fun i => .inr ⟨rfl, rfl⟩
  | cons h _ ih =>
    intro i
    cases i with
    | zero => exact .inl ⟨_, _, rfl, rfl, h⟩
    | succ i => exact ih i
theorem vals_perm {zs : List V} {ws : List Value} (r : Vals zs ws) : ∀ is : List Nat, Vals (permL is zs) (permL is ws)
  | [] => .nil
  | i :: is => by
    have t := vals_perm r is
    unfold permL at t ⊢
    rcases vals_at r i with ⟨z, w, h1, h2, h3⟩ | ⟨h1, h2⟩
    · rw [List.filterMap_cons_some h1, List.filterMap_cons_some h2]
      exact .cons h3 t
    · rw [List.filterMap_cons_none h1, List.filterMap_cons_none h2]
      exact t
section
variable {K : PySem.W.Frag} {fd : FuncData} {ps ks : List Str} {n : Nat} {g : List Value → List Value → List Value} {gV : List V → List V → List V} {T D : Addr} {o : Obj} {its : List Value} {m : Nat} {ms : List (Str × Value)}
theorem kb_eq (rel : ∀ {vs : List V} {us : List Value} {zs : List V} {ws : List Value}, Vals vs us → Vals zs ws → Vals (gV vs zs) (g us ws))
    (h : ∀ us ws : List Value, us.length = n → ws.length = ks.length → bindArgs fd ⟨us, ks.zip ws⟩ = pure (ps.zip (g us ws))) : KBn K fd ps n ks g gV := ⟨fun s us ws _ l1 l2 => .of_eq (h us ws l1 l2), rel⟩
theorem kb_kw (hD : ∀ q ∈ ms, PySem.W.nsIn K D q.1 = some (some q.2)) (rel : ∀ {vs : List V} {us : List Value} {zs : List V} {ws : List Value}, Vals vs us → Vals zs ws → Vals (gV vs zs) (g us ws))
    (h : ∀ us ws : List Value, us.length = n → ws.length = ks.length → KwChain D ms (bindArgs fd ⟨us, ks.zip ws⟩) (ps.zip (g us ws))) : KBn K fd ps n ks g gV :=
  ⟨fun s us ws X l1 l2 => BindsTo.of_looks fun M => KwChain.looks X hD (h us ws l1 l2), rel⟩
theorem kb_df (lT : K.lookup T = some o) (oT : o.data = .seq its.toArray m) (hD : ∀ q ∈ ms, PySem.W.nsIn K D q.1 = some (some q.2))
    (rel : ∀ {vs : List V} {us : List Value} {zs : List V} {ws : List Value}, Vals vs us → Vals zs ws → Vals (gV vs zs) (g us ws))
    (h : ∀ us ws : List Value, us.length = n → ws.length = ks.length → ∃ k, bindArgs fd ⟨us, ks.zip ws⟩ = seqItems? (.ref T) >>= k ∧ KwChain D ms (k (some its.toArray)) (ps.zip (g us ws))) : KBn K fd ps n ks g gV :=
  ⟨fun s us ws X l1 l2 => BindsTo.of_looks fun M => by
    obtain ⟨k, e1, e2⟩ := h us ws l1 l2
    rw [e1]
    exact looks_items X lT oT (KwChain.looks X hD e2), rel⟩
end
end Z
/-! Z, part O: more of own objects: bool by __len__, isinstance, != -/
namespace Z
open PySem PySem.Spec PyProof.Rows L2 Builtin
section
variable {prog : Program} {w : World} {A : Around} {E : Value → Shared → Prop} {s : Shared} {K : PySem.W.Frag} {x C f : Addr} {ox : Obj} {od : Option Obj}
/-- what __len__ hands back, for bool -/
def LenTru (Q : Bool → Shared → Prop) (v : Value) (s' : Shared) : Prop := ∃ (n : Nat) (t : Tok), v = .int n t ∧ n ≤ 16777216 ∧ ∀ tk, Q (decide (0 < n)) { s' with toks := tk }
theorem own_truthy {Q : Bool → Shared → Prop} (X : K.In s.heap) (I : PySem.W.InstAt s.heap x ox C od) (nb : PySem.W.findIn K (.ref C) "__bool__" = some none) (hs : PySem.W.findIn K (.ref C) "__len__" = some (some (.ref f))) (hf : PySem.W.isFn K (.ref f) = true)
    (h : wpAny (model prog w) A.in1 (call (.ref f) [.ref x]) (LenTru Q) E s) : wpAny (model prog w) A (truthy (.ref x)) Q E s := by
  have key : wpAny (model prog w) A (runValue (.builtin "len" ⟨[.ref x], []⟩)) (fun r s' => ∃ (n : Nat) (t : Tok), r = .int n t ∧ Q (decide (0 < n)) s') E s := by
    refine wpAny_runValue (codeAny_builtin PySem.entry_len ?_)
    rw [Around.under_plainId PySem.plain_len _]
    unfold Builtin.«len»
    refine wpAny_bind (m := oneArg "len" _) (wpAny_pure ?_)
    refine wpAny_bind (m := callSpecial? (.ref x) (Str.ofString "__len__")) (PySem.W.special_fn X I hs (beq_iff_eq.mp hf) (wpAny_mono h (fun r s' hr => ?_) fun _ _ y => y))
    obtain ⟨n, t, rfl, hn, q⟩ := hr
    refine wpAny_bind (wpAny_holding (wpAny_pure ?_))
    refine wpAny_bind (wpAny_letGo ?_)
    show wpAny _ _ (if ((n : Nat) : Int) < 0 then _ else _) _ _ _
    rw [if_neg (by omega)]
    show wpAny _ _ (if ((n : Nat) : Int) ≥ 2 ^ 63 then _ else _) _ _ _
    rw [if_neg (by have : (2 : Int) ^ 63 = 9223372036854775808 := by decide
                   omega)]
    exact wpAny_bind (wpAny_mkInt (wpAny_pure ⟨n, _, rfl, q _⟩))
  have hsp : ∀ {Q' : Option Value → Shared → Prop}, Q' (some (.ref f)) s → wpAny (model prog w) A (specialOf (.ref x) "__len__") Q' E s := fun q => by
    unfold specialOf
    exact wpAny_bind (I.type.here ((PySem.W.looks_findIn X hs).here q))
  have hne : ∀ n : Nat, ((n : Int) != 0) = decide (0 < n) := fun n => by
    cases n with
    | zero => rfl
    | succ n => simp; omega
  unfold truthy
  first
    | refine wpAny_bind (DSub.special_no (name := Str.ofString "__bool__") X I nb ?_)
    | refine wpAny_bind (wpAny_pure (wpAny_bind (DSub.special_no (name := Str.ofString "__bool__") X I nb ?_)))
  first
    | refine wpAny_bind (hsp ?_)
    | refine wpAny_bind (wpAny_pure (wpAny_bind (hsp ?_)))
  first
    | exact wpAny_bind (wpAny_mono key (fun r s' h' => by obtain ⟨n, t, rfl, hq⟩ := h'; exact wpAny_pure (hne n ▸ hq)) fun _ _ e => e)
    | exact wpAny_bind (wpAny_pure (wpAny_bind (wpAny_mono key (fun r s' h' => by obtain ⟨n, t, rfl, hq⟩ := h'; exact wpAny_pure (hne n ▸ hq)) fun _ _ e => e)))
end
end Z
namespace Z
open PySem PySem.Spec PyProof.Rows L2 Builtin
section
variable {prog : Program} {w : World} {A : Around} {E : Value → Shared → Prop} {s : Shared} {K : PySem.W.Frag} {x C f : Addr} {ox : Obj} {od : Option Obj}
theorem own_bool {Q : Value → Shared → Prop} (X : K.In s.heap) (I : PySem.W.InstAt s.heap x ox C od) (nb : PySem.W.findIn K (.ref C) "__bool__" = some none) (hs : PySem.W.findIn K (.ref C) "__len__" = some (some (.ref f))) (hf : PySem.W.isFn K (.ref f) = true)
    (h : wpAny (model prog w) A.in1.in1.in1 (call (.ref f) [.ref x]) (LenTru fun b s' => Q (.bool b) s') E s) : wpAny (model prog w) A (call (.type "bool") [.ref x]) Q E s := by
  refine callType_codes (T := "bool") (Bi := Builtin.«object.__init__») (Q₁ := fun r s₁ => ∃ b, r = .bool b ∧ Q r s₁) PySem.F.called_bool (PySem.F.typeCall_bool_1 _) PySem.F.entry_object_init ?_ ?_
  · refine codeAny_of_tree ?_
    show wpAny _ A.in1.in1 (do checkBuiltinCall "bool.__new__" ⟨[.type "bool", .ref x], []⟩; again (.builtin "bool.__new__" ⟨[.type "bool", .ref x], []⟩)) _ _ s
    refine wpAny_bind (wpAny_of_eq (PySem.F.newCall_bool_1 _) (wpAny_pure ⟨PySem.plainId_quiet (by decide +kernel) _, codeAny_builtin PySem.F.entry_bool_new ?_⟩))
    rw [Around.under_plainId (by decide +kernel) _]
    unfold Builtin.«bool.__new__»
    refine wpAny_bind (m := isType _) (wpAny_pure ?_)
    refine wpAny_bind (wpAny_of_eq PySem.F.conv_sub_bool ?_)
    refine wpAny_bind (m := someArgs _ _ _ _) (wpAny_pure ?_)
    refine wpAny_bind (wpAny_mono (own_truthy (Q := fun b s' => Q (.bool b) s') X I nb hs hf h) (fun b s' z => wpAny_pure ⟨b, rfl, z⟩) fun _ _ y => y)
  · rintro obj s₁ ⟨b, rfl, hq⟩
    exact ⟨PySem.typeIs_bool _ _, PySem.F.args_object_init_2 _ _, object_init_meets PySem.F.called_bool.init.lookup PySem.F.called_bool.made (by decide) prog w A.in1 _ s₁ ⟨PySem.typeIs_bool _ _, rfl, hq⟩⟩
end
end Z
namespace Z
open PySem PySem.Spec PyProof.Rows L2 Builtin
section
variable {prog : Program} {w : World} {A : Around} {E : Value → Shared → Prop} {s : Shared} {K : PySem.W.Frag} {x y C f : Addr} {ox oy : Obj} {od od' : Option Obj}
theorem own_ne {Q : Value → Shared → Prop} (hu : A.units < cLine) (hu1 : A.in1.units < cLine) (X : K.In s.heap) (I : PySem.W.InstAt s.heap x ox C od) (J : PySem.W.InstAt s.heap y oy C od')
    (ne : PySem.W.findIn K (.ref C) "__ne__" = some (some (.builtin "object.__ne__"))) (eqf : PySem.W.findIn K (.ref C) "__eq__" = some (some (.ref f))) (hf : PySem.W.isFn K (.ref f) = true) (mo : PySem.W.subIn K (.ref C) (.type "object") = some true)
    (h : wpAny (model prog w) A.in1 (call (.ref f) [.ref x, .ref y]) (fun v s' => ∃ b, v = .bool b ∧ Q (.bool (!b)) s') E s) : wpAny (model prog w) A (richCompare .NotEq (.ref x) (.ref y)) Q E s := by
  have body : wpAny (model prog w) A (call (.builtin "object.__ne__") [.ref x, .ref y]) (fun v s' => ∃ b, v = .bool b ∧ Q (.bool b) s') E s := by
    refine wpAny_call (codeAny_call_builtin PySem.F.cmp_object.ne.plain PySem.F.cmpEntry_ne ?_)
    have hc : ∀ {A' : Around} {E' : Value → Shared → Prop} {Q' : Unit → Shared → Prop}, Q' () s → wpAny (model prog w) A' (checkBuiltinCall "object.__ne__" ⟨[.ref x, .ref y], []⟩) Q' E' s := fun {A' E' Q'} hq => by
      have ha := PySem.F.cmpArgs_ne (.ref x) (.ref y)
      simp only [checkBuiltinCall, PySem.F.cmpKind_ne, PySem.F.cmpSplit_ne]
      refine wpAny_bind ?_
      unfold isInstance
      refine wpAny_bind (I.type.here ((PySem.W.looks_subIn X mo).here ?_))
      cases hsig : Manifest.signature? "object.__ne__" with
      | none => exact wpAny_pure hq
      | some sig =>
        simp only [argsOk, hsig] at ha
        have h2 : Bind.checkArgs "object.__ne__" sig ⟨[.ref x, .ref y], []⟩ = pure () := ha
        show wpAny _ A' (Bind.checkArgs "object.__ne__" sig ⟨[.ref x, .ref y], []⟩) Q' E' _
        rw [h2]; exact wpAny_pure hq
    refine hc ?_
    unfold Builtin.«object.__ne__»
    refine wpAny_bind (m := slotArgs _ _ _) (wpAny_pure ?_)
    refine wpAny_bind (m := cRoomFor _ _) (wpAny_cRoomFor hu1 ?_)
    refine wpAny_bind (m := callSpecialIfBound? _ _ _) (PySem.W.ifBound_K X I eqf hf (wpAny_mono h (fun v s' hv => ?_) fun _ _ e => e))
    obtain ⟨b, rfl, q⟩ := hv
    refine wpAny_bind (m := truthy _) (wpAny_pure ?_)
    exact wpAny_pure ⟨_, rfl, q⟩
  have one : wpAny (model prog w) A (tryCompare (.ref x) "__ne__" (.ref y)) (fun r s' => ∃ v, r = some v ∧ Q v s') E s := by
    unfold tryCompare
    simp only [callSpecialIfBound?, bindSpecialIfBound?]
    refine wpAny_bind (wpAny_holding (wpAny_bind (wpAny_bind (wpAny_bind (I.type.here ((PySem.W.looks_findIn X ne).here ?_))))))
    simp only [PySem.F.cmp_object.ne.bind]
    refine wpAny_bind (wpAny_askSetting (wpAny_ite ?_))
    have fin : ∀ {Q' : Option Value → Shared → Prop}, (∀ b s', Q (.bool b) s' → Q' (some (.bool b)) s') → wpAny (model prog w) A (call (.builtin "object.__ne__") ([.ref x] ++ [.ref y]) >>= fun v => pure (some v)) Q' E s := fun {Q'} k => wpAny_bind (wpAny_mono body (fun v s' hv => by
      obtain ⟨b, rfl, q⟩ := hv
      exact wpAny_pure (k b s' q)) fun _ _ h' => h')
    split
    · refine wpAny_bind (wpAny_pure (wpAny_pure ?_))
      exact fin fun b s' q => wpAny_pure ⟨_, rfl, q⟩
    · refine wpAny_tryCatch (wpAny_bind (wpAny_pure (wpAny_pure ?_)))
      exact fin fun b s' q => wpAny_pure ⟨_, rfl, q⟩
  unfold richCompare
  simp only [oneThing_ref]
  refine wpAny_holding (wpAny_bind (wpAny_cRoomFor hu ?_))
  refine wpAny_bind (I.type.here (wpAny_bind (J.type.here ?_)))
  rw [if_neg (by simp)]
  refine wpAny_bind (wpAny_pure ?_)
  simp only [Bool.false_eq_true, if_false]
  refine wpAny_bind (wpAny_mono one (fun r s' z => ?_) fun _ _ e => e)
  obtain ⟨v, rfl, hq⟩ := z
  exact wpAny_pure hq
end
end Z
namespace Z
open PySem PySem.Spec PyProof.Rows L2 Builtin
/-- more of what a plain class must have: bool, !=, isinstance -/
structure OwnC (K : PySem.W.Frag) (C : Addr) : Prop where
  nb : PySem.W.findIn K (.ref C) "__bool__" = some none
  ne : PySem.W.findIn K (.ref C) "__ne__" = some (some (.builtin "object.__ne__"))
  ob : PySem.W.subIn K (.ref C) (.type "object") = some true
  ha : PySem.W.findIn K (.ref C) "__class__" = some (some (.builtin "object.__class__"))
  hn : PySem.W.specialIn K (.builtin "object.__class__") "__get__" = some (some (.builtin "getset_descriptor.__get__"))
  htk : PySem.W.takesIn K (.builtin "object.__class__") = some true
  hm : PySem.W.mroIn K C (.type "object") = some true
  ci : ∃ c, PySem.W.clsIn K C = some c
  ty : PySem.W.typeIn K (.ref C) = some (.type "type")
  s1 : PySem.W.subIn K (.type "str") (.ref C) = some false
  s2 : PySem.W.subIn K (.type "int") (.ref C) = some false
  s3 : PySem.W.subIn K (.type "bool") (.ref C) = some false
  s4 : PySem.W.subIn K (.type "list") (.ref C) = some false
  s5 : PySem.W.subIn K (.type "tuple") (.ref C) = some false
  s6 : PySem.W.subIn K (.type "NoneType") (.ref C) = some false
section
variable {X : Cx} {k : Nat} {C : Addr} {gV : List V → List V → List V} {sp : Sp}
def isLenB (Q : VK) : VK := fun v H => ∃ n : Nat, v = .int n ∧ n ≤ 16777216 ∧ Q (.bl (decide (0 < n))) H
theorem z_boolO (M : MthK X.prog X.w X.K X.mg X.base k C "__len__" 1 [] gV sp) (room : Room (k + 3) X.A) (noG : X.A.guards = some []) (oc : OwnC X.K C) : CallR X (.type "bool") (rOwn1 C sp gV isLenB) := by
  intro pins s σ H xs us Q I r h
  obtain ⟨a, dx, fs, rfl, ea, q⟩ := h
  obtain ⟨u, rfl, ru⟩ := vals1 r
  cases ru
  obtain ⟨ox, od, J⟩ := own_inst I ea
  obtain ⟨f, hf, fn, go⟩ := run_own (E := X.xe) (A := X.A.in1.in1.in1) M (room_in1 (room_in1 (room_in1 room))) noG rfl I r rfl q
  refine own_bool I.kIn J oc.nb hf fn (wpAny_mono go ?_ fun _ _ z => z)
  rintro v s' ⟨x, H', I', rx, n, rfl, hn, q'⟩
  obtain ⟨t, rfl⟩ := rx
  exact ⟨n, t, rfl, hn, fun tk => ⟨V.bl (decide (0 < n)), H', I'.tok _, rfl, q'⟩⟩
def rNeO (C : Addr) (sp : Sp) (gV : List V → List V → List V) : R2 := fun x y H Q => ∃ a b dx dy fs gs, x = .ref a ∧ y = .ref b ∧ H a = some (.ins C dx fs) ∧ H b = some (.ins C dy gs) ∧ sp (gV [x, y] []) H (fun v H' => ∃ c, v = .bl c ∧ Q (.bl (!c)) H') (fun _ _ _ => False)
theorem z_neO (M : MthK X.prog X.w X.K X.mg X.base k C "__eq__" 2 [] gV sp) (room : Room (k + 3) X.A) (noG : X.A.guards = some []) (oc : OwnC X.K C) : OpR X (compareOp .NotEq) (rNeO C sp gV) := by
  intro pins s σ H x y v u Q I rx ry h
  obtain ⟨a, b, dx, dy, fs, gs, rfl, rfl, ea, eb, q⟩ := h
  cases rx
  cases ry
  obtain ⟨ox, od, J⟩ := own_inst I ea
  obtain ⟨ox', od', J'⟩ := own_inst I eb
  obtain ⟨f, hf, fn, go⟩ := run_own (E := X.xe) (A := X.A.in1) M ((room_in1 room).mono (by omega)) noG rfl I (us := [.ref a, .ref b]) (vs := [.ref a, .ref b]) (.cons rfl (.cons rfl .nil)) rfl q
  refine own_ne room.units0 (room_in1 room).units0 I.kIn J J' oc.ne hf fn oc.ob (wpAny_mono go ?_ fun _ _ z => z)
  rintro v s' ⟨z, H', I', rz, c, rfl, q'⟩
  cases rz
  exact ⟨c, rfl, V.bl (!c), H', I', rfl, q'⟩
end
section
variable {σ : L2.St} {H : Hp} {Q : VK} {K : PySem.W.Frag} {w : World} {a b C dx dy : Addr} {fs gs : List (Str × V)} {x : V} {gV : List V → List V → List V} {sp : Sp}
theorem isO_ (e : H a = some (.ins C dx fs)) (c : Cls K C) (o : OwnC K C) (h : Q (.bl true) H) : rIsZ K [.ref a, .ref C] H Q :=
  .inl ⟨_, _, .ref C, .ref C, true, rfl, .own C, .base (.ins e c o.ha o.hn o.htk o.hm), by unfold PySem.W.kitOne; rw [if_pos (by simp)], h⟩
theorem kit_no {t : String} (o : OwnC K C) (s : PySem.W.subIn K (.type t) (.ref C) = some false) : PySem.W.kitOne K (.type t) (.ref C) = some false := by
  unfold PySem.W.kitOne
  rw [if_neg (by simp)]
  unfold PySem.W.kitCls
  obtain ⟨c, e⟩ := o.ci
  dsimp only
  rw [e, o.ty, s]
  rfl
theorem isOstr_ {l : List Nat} (o : OwnC K C) (h : Q (.bl false) H) : rIsZ K [T l, .ref C] H Q := .inl ⟨_, _, _, .ref C, false, rfl, .own C, .base (.str _), kit_no o o.s1, h⟩
theorem isOint_ {i : Int} (o : OwnC K C) (h : Q (.bl false) H) : rIsZ K [.int i, .ref C] H Q := .inl ⟨_, _, _, .ref C, false, rfl, .own C, .base (.int _), kit_no o o.s2, h⟩
theorem isObl_ {i : Bool} (o : OwnC K C) (h : Q (.bl false) H) : rIsZ K [.bl i, .ref C] H Q := .inl ⟨_, _, _, .ref C, false, rfl, .own C, .base (.bl _), kit_no o o.s3, h⟩
theorem isOnon_ (o : OwnC K C) (h : Q (.bl false) H) : rIsZ K [.non, .ref C] H Q := .inl ⟨_, _, _, .ref C, false, rfl, .own C, .base .non, kit_no o o.s6, h⟩
theorem isOlst_ {xs : List V} (e : H a = some (.lst xs)) (o : OwnC K C) (h : Q (.bl false) H) : rIsZ K [.ref a, .ref C] H Q := .inl ⟨_, _, _, .ref C, false, rfl, .own C, .base (.lst e), kit_no o o.s4, h⟩
theorem isOtup_ {xs : List V} (e : H a = some (.tup xs)) (o : OwnC K C) (h : Q (.bl false) H) : rIsZ K [.ref a, .ref C] H Q := .inl ⟨_, _, _, .ref C, false, rfl, .own C, .base (.tup e), kit_no o o.s5, h⟩
theorem isLenB_ {n : Nat} (l : n ≤ 16777216) (h : Q (.bl (decide (0 < n))) H) : isLenB Q (.int n) H := ⟨n, rfl, l, h⟩
/-- built-in kinds -/
theorem isLL_ {xs : List V} (e : H a = some (.lst xs)) (h : Q (.bl true) H) : rIsZ K [.ref a, .ty "list"] H Q := isB_ (a := "list") (.base (.lst e)) (by decide +kernel) h
theorem isTT_ {xs : List V} (e : H a = some (.tup xs)) (h : Q (.bl true) H) : rIsZ K [.ref a, .ty "tuple"] H Q := isB_ (a := "tuple") (.base (.tup e)) (by decide +kernel) h
theorem isII_ {i : Int} (h : Q (.bl true) H) : rIsZ K [.int i, .ty "int"] H Q := isB_ (a := "int") (.base (.int _)) (by decide +kernel) h
theorem isIB_ {i : Int} (h : Q (.bl false) H) : rIsZ K [.int i, .ty "bool"] H Q := isB_ (a := "int") (.base (.int _)) (by decide +kernel) h
def zEqO (C : Addr) (sp : Sp) (gV : List V → List V → List V) (N : Bool → VK → VK) (x y : V) (H : Hp) (Q : VK) : Prop := ∃ a b dx dy fs gs, x = .ref a ∧ y = .ref b ∧ H a = some (.ins C dx fs) ∧ H b = some (.ins C dy gs)
theorem eqO_ (e : H a = some (.ins C dx fs)) (e2 : H b = some (.ins C dy gs)) (h : zSp sp (gV [.ref a, .ref b] []) H (fun v H' => ∃ c, v = .bl c ∧ Q v H') (fun _ _ _ => False)) : rEqO C sp gV (.ref a) (.ref b) H Q := ⟨a, b, dx, dy, fs, gs, rfl, rfl, e, e2, h⟩
theorem neO_ (e : H a = some (.ins C dx fs)) (e2 : H b = some (.ins C dy gs)) (h : zSp sp (gV [.ref a, .ref b] []) H (fun v H' => ∃ c, v = .bl c ∧ Q (.bl (!c)) H') (fun _ _ _ => False)) : rNeO C sp gV (.ref a) (.ref b) H Q := ⟨a, b, dx, dy, fs, gs, rfl, rfl, e, e2, h⟩
end
theorem intL_len {n : Nat} (h : n ≤ 1000) : (intL (n : Int)).length ≤ 4 := by
  unfold intL
  have key : ∀ n : Nat, n < 1001 → ((Str.ofString (toString (n : Int))).cps.toList).length ≤ 4 := by decide +kernel
  exact key n (by omega)
end Z
/-! Z, part P: sum(list, start=k) -/
namespace Z
open PySem PySem.Spec PyProof.Rows L2 Builtin
section
variable {prog : Program} {w : World} {A : Around} {I : Addr} {fp wr : List Addr} {n : Nat} {P : Nat → Value → Prop} {St : Nat → Heap → Prop}
/-- one item ahead, that has been taken -/
theorem walks_shift (W : Walks prog w A I fp wr n P St) : Walks prog w A I fp wr (n + 1) (fun i v => ∃ j, i = j + 1 ∧ P j v) (fun i h => ∃ j, i = j + 1 ∧ St j h) where
  sub := W.sub
  frame := fun i h h' ⟨j, e, st⟩ k => ⟨j, e, W.frame j h h' st k⟩
  item := fun i s Q E hi ⟨j, e, st⟩ k => W.item j s Q E (by omega) st fun v h' tk p st' fr => k v h' tk ⟨j, e, p⟩ ⟨j + 1, by omega, st'⟩ fr
  done := fun s Q E ⟨j, e, st⟩ k => W.done s Q E (by rw [show n = j by omega]; exact st) k
  self := fun i s Q E ⟨j, e, st⟩ q => W.self j s Q E st q
def shiftV (k : Int) (val : Nat → Int) : Nat → Int
  | 0 => k
  | j + 1 => val j
theorem preSum_shift (k : Int) (val : Nat → Int) : ∀ j, preSum (shiftV k val) (j + 1) = k + preSum val j
  | 0 => by show 0 + k = k + 0; omega
  | j + 1 => by
    show preSum (shiftV k val) (j + 1) + val j = k + (preSum val j + val j)
    rw [preSum_shift k val j]
    omega
end
theorem args_sumK (a b : Value) : argsOk "sum" ⟨[a], [(Str.ofString "start", b)]⟩ := by unfold argsOk; kernel_rfl
section
variable {prog : Program} {w : World} {A : Around} {E : Value → Shared → Prop} {s : Shared} {l : Addr} {xs : Array (Int × Tok)}
theorem sum_start {k : Int} {t0 : Tok} {Q : Value → Shared → Prop} (hh : A.handled = none) (hl : s.heap.IsList l (intItems xs)) (k0 : -(2 ^ 63) ≤ k) (k1 : k < 2 ^ 63)
    (h : ∀ h' tk t', (∀ b o, s.heap.get? b = some o → h'.get? b = some o) → Q (.int (k + preSum (numAt xs) xs.size) t') { s with heap := h', toks := tk }) :
    wpAny (model prog w) A (call (.builtin "sum") [.ref l] [(Str.ofString "start", .int k t0)]) Q E s := by
  refine wpAny_call (codeAny_call_builtin F.plain_sum F.entry_sum ?_)
  have ha := args_sumK (.ref l) (.int k t0)
  simp only [checkBuiltinCall, F.kind_sum]
  have body : wpAny (model prog w) A.in1 (Builtin.«sum» ⟨[.ref l], [(Str.ofString "start", .int k t0)]⟩) (fun fin s' => match fin with
      | .done f => (match (Except.ok f : Result) with | .ok (.ret v) => Q v s' | .ok _ => False | .error e => E e s')
      | .again c' => c'.quiet = true ∧ codeAny (model prog w) A c' (fun r s' => match r with | .ok (.ret v) => Q v s' | .ok _ => False | .error e => E e s') s') E s := by
    unfold Builtin.«sum»
    simp only [List.length_cons, List.length_nil]
    rw [if_neg (by decide)]
    refine wpAny_bind (wpAny_of_eq (show Builtin.Builtins.bindParams "sum" ["start"] 0 ⟨[], [(Str.ofString "start", .int k t0)]⟩ = pure [some (.int k t0)] from rfl) ?_)
    refine wpAny_bind (m := pyIter _) (iter_intList hl fun s₂ e st hfp hlI => ?_)
    subst e
    have W := walks_shift (Walks.list (prog := prog) (w := w) (A := A.in1) hh s.heap.objs.size l hlI (intItems xs))
    have hc : (decide (-(2 ^ 63) ≤ k) && decide (k < 2 ^ 63)) = true := by
      simp only [Bool.and_eq_true, decide_eq_true_eq]
      exact ⟨k0, k1⟩
    show wpAny _ A.in1 (if (_ : Bool) = true then _ else _) _ _ _
    split
    · refine wpAny_bind (wpAny_rule ?_)
      refine wpAny_bind (wpAny_mkInt ?_)
      refine wpAny_bind (wpAny_pure ?_)
      simp only [List.forIn_cons, List.forIn_nil]
      refine wpAny_bind (wpAny_bind (wpAny_bind (wpAny_isInstance (T := "int") (b := false) (PySem.typeIs_int _ _ _) PySem.sub_int_str ?_)))
      simp only [Bool.false_eq_true, if_false]
      refine wpAny_pure (wpAny_bind (wpAny_bind (wpAny_isInstance (T := "int") (b := false) (PySem.typeIs_int _ _ _) PySem.sub_int_bytes ?_)))
      simp only [Bool.false_eq_true, if_false]
      refine wpAny_pure (wpAny_bind (wpAny_bind (wpAny_isInstance (T := "int") (b := false) (PySem.typeIs_int _ _ _) PySem.sub_int_bytearray ?_)))
      simp only [Bool.false_eq_true, if_false]
      refine wpAny_pure (wpAny_pure ?_)
      refine wpAny_bind (wpAny_newObj_type ?_)
      have hSf : (s.heap.push { cls := .type "list_iterator", data := .fields #[.ref l, .int 0 0] }).objs.size ∉ [s.heap.objs.size, l] := fun hm => Nat.lt_irrefl _ (hfp _ hm)
      have e1 : preSum (shiftV k (numAt xs)) 1 = k := (preSum_shift k (numAt xs) 0).trans (Int.add_zero k)
      have e2 : (intItems xs).size = xs.size := by simp [intItems]
      refine wpAny_pure ⟨plainId_quiet F.plain_sum_loop _, codeAny_sum_loopG W (shiftV k (numAt xs)) (fun i v ⟨j, e, p⟩ => by rw [e]; exact intItems_at p) _ hSf ((intItems xs).size) 1 _ s.toks 0 0 (Or.inl rfl) rfl (by omega)
        ?_ (by rw [e1]; exact Heap.get?_push_size _ rfl) fun h' tk t' hk => ?_⟩
      · refine W.frame 1 _ _ ⟨0, rfl, st⟩ fun b hb o e => Heap.get?_push_of_some _ e
      · rw [e2, preSum_shift]
        refine h h' tk t' fun b o e => ?_
        have lt := Heap.lt_size e
        refine hk b o (fun z => ?_) (fun z => ?_) (Heap.get?_push_of_some _ (Heap.get?_push_of_some _ e))
        · rw [List.mem_singleton.mp z] at lt
          exact Nat.lt_irrefl _ lt
        · have := hfp s.heap.objs.size (by simp)
          rw [z] at lt
          exact Nat.lt_irrefl _ (Nat.lt_trans lt this)
    · rename_i hneg
      exact absurd hc hneg
  cases hsig : Manifest.signature? "sum" with
  | none => exact wpAny_pure body
  | some sig =>
    simp only [argsOk, hsig] at ha
    have h2 : Bind.checkArgs "sum" sig ⟨[.ref l], [(Str.ofString "start", .int k t0)]⟩ = pure () := ha
    show wpAny _ A.in1 (Bind.checkArgs "sum" sig ⟨[.ref l], [(Str.ofString "start", .int k t0)]⟩) _ _ s
    rw [h2]; exact wpAny_pure body
end
end Z
namespace Z
open PySem PySem.Spec PyProof.Rows L2
section
variable {M : Model} {A : Around} {E : Value → Shared → Prop} {s : Shared}
theorem callWith_bltK {pos : Pos} {T : String} {first : List Value} {args : List (Bool × Sem Value)} {keywords : List (Option Str × Sem Value)} {Q : Value → Shared → Prop}
    (hplain : args.any (·.1) = false) (hkw : keywords.any (·.1.isNone) = false) (hk : keeperOf (.builtin T) = pure .machine)
    (h : wpAny M A (evalArgs (.builtin T) true args keywords) (fun a s₁ => wpAny M A (call (.builtin T) (first ++ a.pos) a.kw) Q E s₁) E s) : wpAny M A (callWith pos (.builtin T) first args keywords) Q E s := by
  unfold callWith
  refine wpAny_bind (wpAny_holding (wpAny_mono h (fun a s₁ h₁ => wpAny_bind (wpAny_standAt ?_)) fun _ _ x => x))
  simp only [hplain, hkw, Bool.or_false]
  rw [hk]
  refine wpAny_bind (wpAny_pure ?_)
  exact wpAny_bind (wpAny_mono h₁ (fun r s₂ hr => wpAny_bind (wpAny_holding (wpAny_point (wpAny_pure hr)))) fun _ _ x => x)
end
def zSumK (K : PySem.W.Frag) (Q : VK) (vs zs : List V) (H : Hp) : Prop := ∃ (a : Addr) (ns : List Int) (k : Int), vs = [.ref a] ∧ zs = [.int k] ∧ SqL K H a (ns.map V.int) ∧ -(2 ^ 63) ≤ k ∧ k < 2 ^ 63 ∧ Q (.int (k + ns.sum)) H
def tSumK (K : PySem.W.Frag) (ta tk : TA) : TE := fun σ H Q => ta σ H fun vs H1 => tk σ H1 (zSumK K Q vs)
theorem z_sumK {X : Cx} {K : PySem.W.Frag} {e e2 : Expr} {ta tk : TA} {p pos kp : Pos} (hc : X.calm = true) (hg : Gl X "sum") (hm : X.mg "sum" = none) (ha : PA X [e] ta) (hk : PK X [⟨some "start", e2, kp⟩] tk)
    (eK : X.K = K := by rfl) (hs : starEach [e] X.env = [(false, eval e X.env)] := by rfl) :
    PE X (.Call (.Name "sum" p) [e] [⟨some "start", e2, kp⟩] pos) (tSumK K ta tk) := by
  subst eK
  refine ⟨fun pins s σ H Q I h => ?_⟩
  have F0 : (backTo pos (starEach [e] X.env)).any (·.1) = false := by rw [hs]; rfl
  refine wpAny_Call_Name_kw (ld_blt I hg hm boot_sum ?_)
  refine callWith_bltK F0 rfl (by with_unfolding_all rfl) ?_
  refine evalArgs_kw2 rfl (thn (ha.run pos pins s σ H _ I h) fun us s1 ⟨vs, H1, I1, r1, q1⟩ => thn (hk.run pos pins s1 σ H1 _ I1 q1) fun ws s2 ⟨zs, H2, I2, r2, q2⟩ => ?_) hs
  obtain ⟨a, ns, k, rfl, rfl, hq, k0, k1, q⟩ := q2
  obtain ⟨u2, rfl, t2, rfl⟩ := vals1 r2
  rw [Vals.ref1 r1]
  obtain ⟨its, rv, hl, _⟩ := I2.list hq
  obtain ⟨xs, ex⟩ := rv.ints.allInts.items
  have hn : numsOf (intItems xs).toList = ns := by rw [← ex]; exact rv.ints.numsOf
  rw [nums_intItems] at hn
  have hl2 := hl.isList
  rw [ex] at hl2
  refine sum_start (I2.ok.hd hc) hl2 k0 k1 fun h' tk t' hk' => ?_
  rw [preSum_eq, List.take_of_length_le (by simp), hn]
  exact ⟨.int _, H2, I2.kept hk', ⟨_, rfl⟩, q⟩
section
variable {σ : L2.St} {H : Hp} {Q : VK} {K : PySem.W.Frag} {a : Addr} {ta tk : TA}
theorem sumK_ (h : ta σ H fun vs H1 => tk σ H1 (zSumK K Q vs)) : tSumK K ta tk σ H Q := h
theorem zsumK_ {ns : List Int} {k : Int} (e : H a = some (.lst (ns.map V.int))) (k0 : -9223372036854775808 ≤ k) (k1 : k < 9223372036854775808) (h : Q (.int (k + ns.sum)) H) : zSumK K Q [.ref a] [.int k] H := ⟨a, ns, k, rfl, rfl, SqL.of e, k0, k1, h⟩
end
end Z
/-! Z, part Q: C(k = v) without values by place -/
namespace Z
open PySem PySem.Spec PyProof.Rows L2
section
variable {X : Cx} {k n : Nat} {sp : Sp} {ks : List Str} {gV : List V → List V → List V} {x : Str} {C : Addr} {p pos : Pos} {kws : List Keyword} {tk : TA} {W : WX}
theorem pe_kkK (D : MkK X.prog X.w X.K X.mg X.base k x C n ks gV sp) (room : Room (k + 1) X.A) (noG : X.A.guards = some []) (hg : Gl X x) (tw : TK X W)
    (hkw : PK X kws tk) (hall : (backToKw pos (keywordEach kws X.env)).all (·.1.isSome) = true := by rfl) (hks : (backToKw pos (keywordEach kws X.env)).filterMap (·.1) = ks := by rfl)
    (hdb : (x == ("__debug__" : Str)) = false := by decide)
    (hpl : ((backTo pos (starEach [] X.env)).any (·.1) || (backToKw pos (keywordEach kws X.env)).any (·.1.isNone)) = false := by rfl) :
    PE X (.Call (.Name x p) [] kws pos) (tKK C sp gV (fun σ c d H' => W c d σ H') n ks.length tNil tk) := by
  obtain ⟨f, fd, ps, g, F, hm, M, hb⟩ := D.ex
  refine ⟨fun pins s σ H Q I h => ?_⟩
  refine wpAny_Call_Name_kw (ld_glob I hg hm ?_ hdb)
  refine PySem.W.callWith_KW0 (h₀ := X.base) I.ok.mod.kin M.kp hall (thn (hkw.run pos pins s σ H _ I h) fun ws s2 ⟨zs, H2, I2, rz, l1, l2, q2⟩ => ⟨I2.kIn, ?_⟩) hpl
  rw [hks]
  exact run_gmake (us := []) (vs := []) M F room noG hb (fun H s I => tw _ _ _ _ I) I2 .nil rz l1 l2 q2
end
end Z
namespace Z
open PySem PySem.Spec PyProof.Rows L2
section
variable {H : Hp} {Q : VK} {l : List Nat} {i : Int} {b : Bool} {a : Addr}
theorem isN_T (h : Q (.bl false) H) : rIsN (T l) .non H Q := ⟨rfl, by rw [decide_eq_false (fun e => nomatch e)]; exact h⟩
theorem isN_I (h : Q (.bl false) H) : rIsN (.int i) .non H Q := ⟨rfl, by rw [decide_eq_false (fun e => nomatch e)]; exact h⟩
theorem isN_B (h : Q (.bl false) H) : rIsN (.bl b) .non H Q := ⟨rfl, by rw [decide_eq_false (fun e => nomatch e)]; exact h⟩
theorem isN_R (h : Q (.bl false) H) : rIsN (.ref a) .non H Q := ⟨rfl, by rw [decide_eq_false (fun e => nomatch e)]; exact h⟩
theorem isN_N (h : Q (.bl true) H) : rIsN .non .non H Q := ⟨rfl, h⟩
theorem noN_T (h : Q (.bl true) H) : rNotN (T l) .non H Q := ⟨rfl, by rw [decide_eq_false (fun e => nomatch e)]; exact h⟩
theorem noN_I (h : Q (.bl true) H) : rNotN (.int i) .non H Q := ⟨rfl, by rw [decide_eq_false (fun e => nomatch e)]; exact h⟩
theorem noN_R (h : Q (.bl true) H) : rNotN (.ref a) .non H Q := ⟨rfl, by rw [decide_eq_false (fun e => nomatch e)]; exact h⟩
theorem noN_N (h : Q (.bl false) H) : rNotN .non .non H Q := ⟨rfl, h⟩
end
end Z
/-! Z, part R: what stands apart in the heap -/
namespace Z
open PySem PySem.Spec PyProof.Rows L2
/-- what is said of a part of the heap -/
abbrev Asn := Hp → Prop
/-- what may be changed -/
def mu : HO → Bool
  | .lst _ => true
  | .dK _ => true
  | .dT _ => true
  | .set _ _ => true
  | .ins _ _ _ => true
  | .ext _ => true
  | .tbl _ => true
  | .frz _ _ => true
  | _ => false
/-- what may be changed of the one stands not in the other -/
def Dis (h g : Hp) : Prop := ∀ a o, h a = some o → mu o = true → g a = none
theorem Dis.symm {h g H : Hp} (d : Dis h g) (a : Ex h H) (b : Ex g H) : Dis g h := fun x o e m => by
  cases q : h x with
  | none => rfl
  | some u =>
    have e1 := a _ _ q
    have e2 := b _ _ e
    rw [e1] at e2
    cases e2
    rw [d _ _ q m] at e
    cases e
theorem Dis.sub {h g g' : Hp} (d : Dis h g) (e : Ex g' g) : Dis h g' := fun x o q m => e.back (d x o q m)
def S : List Asn → Asn
  | [] => fun _ => True
  | A :: L => fun H => ∃ h g, A h ∧ S L g ∧ Ex h H ∧ Ex g H ∧ Dis h g
theorem S.up {L : List Asn} {H H' : Hp} (s : S L H) (e : Ex H H') : S L H' := by
  cases L with
  | nil => trivial
  | cons A L =>
    obtain ⟨h, g, a, b, c, d, f⟩ := s
    exact ⟨h, g, a, b, c.trans e, d.trans e, f⟩
theorem S.drop {A : Asn} {L : List Asn} {H : Hp} (s : S (A :: L) H) : S L H := by
  obtain ⟨h, g, a, b, c, d, f⟩ := s
  exact b.up d
theorem S.imp {A B : Asn} {L : List Asn} {H : Hp} (s : S (A :: L) H) (i : ∀ h, A h → B h) : S (B :: L) H := by
  obtain ⟨h, g, a, b, c, d, f⟩ := s
  exact ⟨h, g, i h a, b, c, d, f⟩
/-- two parts of one heap, put together -/
def uni (h g : Hp) : Hp := fun a => match h a with | some o => some o | none => g a
theorem uni_l (h g : Hp) : Ex h (uni h g) := fun a o e => by unfold uni; rw [e]
theorem uni_r {h g H : Hp} (a : Ex h H) (b : Ex g H) : Ex g (uni h g) := fun x o e => by
  unfold uni
  cases q : h x with
  | none => exact e
  | some u =>
    have e1 := a _ _ q
    have e2 := b _ _ e
    rw [e1] at e2
    exact e2
theorem uni_ex {h g H : Hp} (a : Ex h H) (b : Ex g H) : Ex (uni h g) H := fun x o e => by
  unfold uni at e
  cases q : h x with
  | none => rw [q] at e; exact b _ _ e
  | some u => rw [q] at e; cases e; exact a _ _ q
theorem Dis.uni {k h g : Hp} (a : Dis k h) (b : Dis k g) : Dis k (uni h g) := fun x o e m => by
  unfold Z.uni
  rw [a _ _ e m]
  exact b _ _ e m
theorem Dis.uni_l {h g k : Hp} (a : Dis h k) (b : Dis g k) : Dis (Z.uni h g) k := fun x o e m => by
  unfold Z.uni at e
  cases q : h x with
  | none => rw [q] at e; exact b _ _ e m
  | some u => rw [q] at e; cases e; exact a _ _ q m
theorem S.swap {A B : Asn} {L : List Asn} {H : Hp} (s : S (A :: B :: L) H) : S (B :: A :: L) H := by
  obtain ⟨h, g, a, ⟨h1, g1, b, l, e1, e2, d1⟩, c, d, f⟩ := s
  refine ⟨h1, uni h g1, b, ⟨h, g1, a, l, uni_l _ _, uni_r c (e2.trans d), f.sub e2⟩, e1.trans d, uni_ex c (e2.trans d), ?_⟩
  exact Dis.uni ((f.sub e1).symm c (e1.trans d)) d1
theorem S.cong {A : Asn} {L M : List Asn} {H : Hp} (s : S (A :: L) H) (i : ∀ g, S L g → S M g) : S (A :: M) H := by
  obtain ⟨h, g, a, b, c, d, f⟩ := s
  exact ⟨h, g, a, i g b, c, d, f⟩
inductive Pick (A : Asn) : List Asn → List Asn → Prop
  | head {L : List Asn} : Pick A (A :: L) L
  | tail {B : Asn} {L M : List Asn} (p : Pick A L M) : Pick A (B :: L) (B :: M)
theorem S.pick {A : Asn} {L M : List Asn} (p : Pick A L M) : ∀ {H : Hp}, S L H → S (A :: M) H := by
  induction p with
  | head => exact fun s => s
  | tail p ih => exact fun s => S.swap (s.cong fun g => ih)
theorem S.unpick {A : Asn} {L M : List Asn} (p : Pick A L M) : ∀ {H : Hp}, S (A :: M) H → S L H := by
  induction p with
  | head => exact fun s => s
  | tail p ih => exact fun s => (S.swap s).cong fun g => ih
inductive Sub : List Asn → List Asn → Prop
  | refl {L : List Asn} : Sub L L
  | nil {L : List Asn} : Sub [] L
  | cons {A : Asn} {L M N : List Asn} (p : Pick A M N) (s : Sub L N) : Sub (A :: L) M
  | drop {A : Asn} {L M : List Asn} (s : Sub L M) : Sub L (A :: M)
theorem S.sub {L M : List Asn} (p : Sub L M) : ∀ {H : Hp}, S M H → S L H := by
  induction p with
  | refl => exact fun s => s
  | nil => exact fun _ => trivial
  | cons p s ih => exact fun h => (S.pick p h).cong fun g => ih
  | drop s ih => exact fun h => ih h.drop
theorem S.to {L M : List Asn} {H : Hp} (s : S M H) (p : Sub L M) : S L H := S.sub p s
/-- replaced where it stands -/
inductive Rep (A A' : Asn) : List Asn → List Asn → Prop
  | head {L : List Asn} : Rep A A' (A :: L) (A' :: L)
  | tail {B : Asn} {L M : List Asn} (p : Rep A A' L M) : Rep A A' (B :: L) (B :: M)
theorem Rep.picks {A A' : Asn} {L M : List Asn} (r : Rep A A' L M) : ∃ N, Pick A L N ∧ Pick A' M N := by
  induction r with
  | head => exact ⟨_, .head, .head⟩
  | tail p ih =>
    obtain ⟨N, a, b⟩ := ih
    exact ⟨_, .tail a, .tail b⟩
/-- an object at its place -/
def pts (a : Addr) (o : HO) : Asn := fun h => h a = some o
def one (a : Addr) (o : HO) : Hp := fun b => if b = a then some o else none
theorem one_at (a : Addr) (o : HO) : one a o a = some o := if_pos rfl
theorem one_ex {a : Addr} {o : HO} {H : Hp} (e : H a = some o) : Ex (one a o) H := fun b u h => by
  unfold one at h
  by_cases q : b = a
  · rw [if_pos q] at h; cases h; rw [q]; exact e
  · rw [if_neg q] at h; cases h
theorem one_dis {a : Addr} {o : HO} {H : Hp} (e : H a = none) : Dis (one a o) H := fun b u h _ => by
  unfold one at h
  by_cases q : b = a
  · rw [q]; exact e
  · rw [if_neg q] at h; cases h
theorem S.new {L : List Asn} {H H' : Hp} {p : Addr} {o : HO} (s : S L H) (n : H p = none) (e : Ex H H') (q : H' p = some o) : S (pts p o :: L) H' :=
  ⟨one p o, H, one_at _ _, s, one_ex q, e, one_dis n⟩
theorem S.at_ {L M : List Asn} {H : Hp} {a : Addr} {o : HO} (s : S L H) (p : Pick (pts a o) L M) : H a = some o := by
  obtain ⟨h, g, x, _, c, _⟩ := S.pick p s
  exact c _ _ x
/-- known of a part, known of all -/
theorem S.of {A : Asn} {L M : List Asn} {H : Hp} (s : S L H) (p : Pick A L M) : ∃ h, A h ∧ Ex h H := by
  obtain ⟨h, g, x, _, c, _⟩ := S.pick p s
  exact ⟨h, x, c⟩
theorem S.change {L : List Asn} {H H' : Hp} {l : Addr} {o o' : HO} (s : S (pts l o :: L) H) (m : mu o = true) (e : H' l = some o') (b : But l H H') : S (pts l o' :: L) H' := by
  obtain ⟨h, g, x, y, c, d, f⟩ := s
  have n := f _ _ x m
  exact ⟨one l o', g, one_at _ _, y, one_ex e, fun z u q => b _ _ (ne_of_none q n) (d _ _ q), one_dis n⟩
theorem S.set {L M : List Asn} {H H' : Hp} {l : Addr} {o o' : HO} (s : S L H) (p : Rep (pts l o) (pts l o') L M) (m : mu o = true) (e : H' l = some o') (b : But l H H') : S M H' := by
  obtain ⟨N, p1, p2⟩ := p.picks
  exact S.unpick p2 ((S.pick p1 s).change m e b)
/-- what stands at some places, and what is never changed -/
def restr (fp : List Addr) (H : Hp) : Hp := fun a => match H a with
  | some o => if a ∈ fp ∨ mu o = false then some o else none
  | none => none
theorem restr_at {fp : List Addr} {H : Hp} {a : Addr} {o : HO} (h : a ∈ fp ∨ mu o = false) (e : H a = some o) : restr fp H a = some o := by
  unfold restr
  rw [e]
  exact if_pos h
theorem restr_ex (fp : List Addr) (H : Hp) : Ex (restr fp H) H := fun a o e => by
  unfold restr at e
  cases q : H a with
  | none => rw [q] at e; cases e
  | some u =>
    rw [q] at e
    simp only at e
    split at e
    · exact e
    · cases e
theorem restr_in {fp : List Addr} {H : Hp} {a : Addr} {o : HO} (e : restr fp H a = some o) (m : mu o = true) : a ∈ fp := by
  have e2 := restr_ex _ _ _ _ e
  unfold restr at e
  rw [e2] at e
  simp only at e
  split at e
  · rename_i h
    rcases h with h | h
    · exact h
    · rw [m] at h; cases h
  · cases e
/-- a part that owns some places is changed -/
theorem S.upd {A A' : Asn} {L : List Asn} {H H' : Hp} {fp fp' : List Addr} (s : S (A :: L) H) (w : ∀ h, A h → Ex h H → ∀ x ∈ fp, ∃ o, h x = some o ∧ mu o = true) (b : Bs fp H H') (gr : Grow H fp fp') (k : A' (restr fp' H')) : S (A' :: L) H' := by
  obtain ⟨h, g, x, y, c, d, f⟩ := s
  have no : ∀ z ∈ fp, g z = none := fun z hz => by
    obtain ⟨o, e, m⟩ := w h x c z hz
    exact f _ _ e m
  have keep : Ex g H' := fun z u q => b _ _ (fun hz => by rw [no z hz] at q; cases q) (d _ _ q)
  refine ⟨restr fp' H', g, k, y, restr_ex _ _, keep, fun z u q m => ?_⟩
  rcases gr z (restr_in q m) with hz | hz
  · exact no z hz
  · exact d.back hz
theorem S.newp {A' : Asn} {L : List Asn} {H H' : Hp} {fp' : List Addr} (s : S L H) (e : Ex H H') (gr : ∀ x ∈ fp', H x = none) (k : A' (restr fp' H')) : S (A' :: L) H' :=
  ⟨restr fp' H', H, k, s, restr_ex _ _, e, fun z u q m => gr z (restr_in q m)⟩
/-- parts within a part -/
theorem S.join {L M : List Asn} {H : Hp} (s : S (S L :: M) H) : S (L ++ M) H := by
  induction L generalizing H with
  | nil => exact s.drop
  | cons A L ih =>
    obtain ⟨h, g, ⟨h1, g1, a, l, e1, e2, d1⟩, m, c, d, f⟩ := s
    have f1 : Dis h1 g := fun x o q mm => f _ _ (e1 _ _ q) mm
    have f2 : Dis g1 g := fun x o q mm => f _ _ (e2 _ _ q) mm
    refine ⟨h1, uni g1 g, a, ih ⟨g1, g, l, m, uni_l _ _, uni_r (e2.trans c) d, f2⟩, e1.trans c, uni_ex (e2.trans c) d, Dis.uni d1 f1⟩
theorem S.fold {L M : List Asn} {H : Hp} (s : S (L ++ M) H) : S (S L :: M) H := by
  induction L generalizing H with
  | nil => exact ⟨fun _ => none, H, trivial, s, (fun _ _ h => nomatch h), Ex.refl _, (fun _ _ h => nomatch h)⟩
  | cons A L ih =>
    obtain ⟨h, g, a, l, c, d, f⟩ := s
    obtain ⟨h1, g1, x, m, e1, e2, f1⟩ := ih l
    refine ⟨uni h h1, g1, ⟨h, h1, a, x, uni_l _ _, uni_r c (e1.trans d), f.sub e1⟩, m, uni_ex c (e1.trans d), e2.trans d, Dis.uni_l (f.sub e2) f1⟩
theorem S.ex {α : Type} {A : α → Asn} {L : List Asn} {H : Hp} (s : S ((fun h => ∃ x, A x h) :: L) H) : ∃ x, S (A x :: L) H := by
  obtain ⟨h, g, ⟨x, a⟩, b, c, d, f⟩ := s
  exact ⟨x, h, g, a, b, c, d, f⟩
theorem S.emp (H : Hp) : S [] H := trivial
/-! ### for the steps -/
theorem new_S {L : List Asn} {H : Hp} {o : HO} {Q : Addr → Hp → Prop} (s : S L H) (k : ∀ p H', S (pts p o :: L) H' → Q p H') : ∀ p H', H p = none → Ex H H' → H' p = some o → Q p H' :=
  fun p H' n e q => k p H' (s.new n e q)
theorem mut_S {L M : List Asn} {H : Hp} {l : Addr} {o o' : HO} {Q : Hp → Prop} (s : S L H) (p : Rep (pts l o) (pts l o') L M) (m : mu o = true) (k : ∀ H', S M H' → Q H') : ∀ H', H' l = some o' → But l H H' → Q H' :=
  fun H' e b => k H' (s.set p m e b)
theorem ext_S {L : List Asn} {H : Hp} {Q : Hp → Prop} (s : S L H) (k : ∀ H', S L H' → Q H') : ∀ H', Ex H H' → Q H' := fun H' e => k H' (s.up e)
/-- a list that may be the written part's -/
def ASq (K : PySem.W.Frag) (a : Addr) (xs : List V) : Asn := fun h => SqL K h a xs
theorem S.sq {K : PySem.W.Frag} {L M : List Asn} {H : Hp} {a : Addr} {xs : List V} (s : S L H) (p : Pick (ASq K a xs) L M) : SqL K H a xs := by
  obtain ⟨h, x, e⟩ := s.of p
  exact e.seqL x
theorem S.ofSq {K : PySem.W.Frag} {H : Hp} {a : Addr} {xs : List V} (h : SqL K H a xs) : S [ASq K a xs] H := ⟨H, fun _ => none, h, trivial, Ex.refl _, (fun _ _ h => nomatch h), fun _ _ _ _ => rfl⟩
end Z
namespace Z
open PySem PySem.Spec PyProof.Rows L2
theorem S.pull {A : Asn} {L M : List Asn} {H : Hp} (s : S L H) (p : Pick A L M) : S (A :: M) H := S.pick p s
theorem S.pull2 {A B : Asn} {L M N : List Asn} {H : Hp} (s : S L H) (p : Pick A L M) (q : Pick B M N) : S (A :: B :: N) H := (S.pick p s).cong fun g => S.pick q
theorem S.pull3 {A B C : Asn} {L M N O : List Asn} {H : Hp} (s : S L H) (p : Pick A L M) (q : Pick B M N) (r : Pick C N O) : S (A :: B :: C :: O) H := (S.pick p s).cong fun g x => (S.pick q x).cong fun g => S.pick r
theorem S.ne {a b : Addr} {o o' : HO} {L M N : List Asn} {H : Hp} (s : S L H) (p : Pick (pts a o) L M) (q : Pick (pts b o') M N) (m : mu o = true) : a ≠ b := fun e => by
  obtain ⟨h, g, x, y, c, d, f⟩ := S.pick p s
  obtain ⟨h2, z, e2⟩ := S.of y q
  have := e2 _ _ z
  rw [← e, f _ _ x m] at this
  cases this
section
variable {σ : L2.St} {H : Hp} {te : TE} {tt : TT} {Q : VK} {K : PySem.W.Frag} {y : V} {j : Nat} {a D : Addr} {g : TG} {L M : List Asn}
/-- the item is put behind those that stand -/
theorem put_S {ys : List V} {i : Nat} (s : S M H) {M' : List Asn} (p : Pick (pts D (.lst (ys.take i))) M M') (sub : Sub L M') (l : ys.length < 16777216) (hy : ys[i]? = some y) : zPut1 D (fun H' => S (pts D (.lst (ys.take (i + 1))) :: L) H') y H := by
  have hi : i < ys.length := (List.getElem?_eq_some_iff.mp hy).1
  refine zput1_ (s.at_ p) (by rw [List.length_take]; omega) fun H5 h5 b => ?_
  have s2 := (S.pick p s).change rfl h5 b
  have e : ys.take (i + 1) = ys.take i ++ [y] := by rw [List.take_succ, hy]; rfl
  rw [e]
  exact s2.cong fun g => S.sub sub
theorem put1_S {acc acc' : List V} {N : Hp → Prop} {M' : List Asn} (s : S M H) (p : Rep (pts D (.lst acc)) (pts D (.lst acc')) M M') (e : acc ++ [y] = acc') (l : acc.length < 16777216) (k : ∀ H', S M' H' → N H') : zPut1 D N y H := by
  subst e
  obtain ⟨O, p1, p2⟩ := p.picks
  exact zput1_ (s.at_ p1) l fun H' h b => k H' (s.set p rfl h b)
/-- each item the item of ys -/
theorem lcLS {xs ys : List V} {vs : List Nat} (s : S L H) (hx : SqL K H a xs) (hn : ys.length = xs.length) (hz : ys.length < 16777216) (hq : ∀ H', S L H' → SqL K H' a xs)
    (hs : ∀ (D : Addr) (i : Nat) (x : V) H1, xs[i]? = some x → S (pts D (.lst (ys.take i)) :: L) H1 → g x (wipe σ vs) H1 fun σ2 H3 => wipe σ2 vs = wipe σ vs ∧ te σ2 H3 (zPut1 D (fun H' => S (pts D (.lst (ys.take (i + 1))) :: L) H')))
    (hd : ∀ D H1, S (pts D (.lst ys) :: L) H1 → Q (.ref D) H1) : zLc g tYes te vs σ Q (Itl K a) H := by
  refine lcW walk_list (fun D i H' => S (pts D (.lst (ys.take i)) :: L) H') (fun D H1 hD e h => s.new hD e h) (fun D i H' _ m => hq H' m.drop) ?_ ?_
  · rintro D i x H1 _ hD hi m ⟨rfl, hx⟩
    exact hs D i x _ hx m
  · intro D H1 hD m
    rw [← hn, List.take_length] at m
    exact hd D H1 m
theorem lcTS {l : List Nat} {ys : List V} {vs : List Nat} (s : S L H) (hn : ys.length = l.length) (hz : ys.length < 16777216) (hw : ∀ x, wipe (List.set (wipe σ vs) j (some x)) vs = wipe σ vs)
    (hs : ∀ (D : Addr) (i : Nat) (c : Nat) H1, l[i]? = some c → S (pts D (.lst (ys.take i)) :: L) H1 → te (List.set (wipe σ vs) j (some (T [c]))) H1 (zPut1 D (fun H' => S (pts D (.lst (ys.take (i + 1))) :: L) H')))
    (hd : ∀ D H1, S (pts D (.lst ys) :: L) H1 → Q (.ref D) H1) : zLc (gName j) tYes te vs σ Q (Its ⟨l.toArray⟩) H := by
  have w : Walk (Its (⟨l.toArray⟩ : Str)) l.length (fun _ => True) (fun i H v H' => H' = H ∧ ∃ c, l[i]? = some c ∧ v = T [c]) := by
    have := walk_str (z := (⟨l.toArray⟩ : Str))
    simpa using this
  refine lcW w (fun D i H' => S (pts D (.lst (ys.take i)) :: L) H') (fun D H1 hD e h => s.new hD e h) (fun D i H' _ m => trivial) ?_ ?_
  · rintro D i x H1 _ hD hi m ⟨rfl, c, hc, rfl⟩
    exact ⟨hw _, hs D i c _ hc m⟩
  · intro D H1 hD m
    rw [← hn, List.take_length] at m
    exact hd D H1 m
theorem lcRS {vs : List Nat} {lo : Int} {n : Nat} {ys : List V} (s : S L H) (hn : ys.length = n) (hz : ys.length < 16777216) (hw : ∀ x, wipe (List.set (wipe σ vs) j (some x)) vs = wipe σ vs)
    (hs : ∀ (D : Addr) (i : Nat) H1, i < n → S (pts D (.lst (ys.take i)) :: L) H1 → te (List.set (wipe σ vs) j (some (.int (lo + (i : Nat))))) H1 (zPut1 D (fun H' => S (pts D (.lst (ys.take (i + 1))) :: L) H')))
    (hd : ∀ D H1, S (pts D (.lst ys) :: L) H1 → Q (.ref D) H1) : zLc (gName j) tYes te vs σ Q (Itr lo n) H := by
  refine lcW walk_range (fun D i H' => S (pts D (.lst (ys.take i)) :: L) H') (fun D H1 hD e h => s.new hD e h) (fun D i H' _ m => trivial) ?_ ?_
  · rintro D i x H1 _ hD hi m ⟨rfl, rfl⟩
    exact ⟨hw _, hs D i _ hi m⟩
  · intro D H1 hD m
    rw [← hn, List.take_length] at m
    exact hd D H1 m
/-- by an invariant: over numbers, a text -/
theorem lcRi {vs : List Nat} {lo : Int} {n : Nat} (s : S L H) (Pv : Addr → Nat → Hp → Prop) (h0 : ∀ D H1, S (pts D (.lst []) :: L) H1 → Pv D 0 H1) (hw : ∀ x, wipe (List.set (wipe σ vs) j (some x)) vs = wipe σ vs)
    (hs : ∀ (D : Addr) (i : Nat) H1, i < n → Pv D i H1 → tt (List.set (wipe σ vs) j (some (.int (lo + (i : Nat))))) H1 (zPut te D (Pv D (i + 1)) (List.set (wipe σ vs) j (some (.int (lo + (i : Nat)))))))
    (hd : ∀ D H1, Pv D n H1 → Q (.ref D) H1) : zLc (gName j) tt te vs σ Q (Itr lo n) H := by
  refine lcW walk_range Pv (fun D H1 hD e h => h0 D H1 (s.new hD e h)) (fun D i H' _ m => trivial) ?_ (fun D H1 _ m => hd D H1 m)
  rintro D i x H1 _ hD hi m ⟨rfl, rfl⟩
  exact ⟨hw _, hs D i _ hi m⟩
theorem lcTi {l : List Nat} {vs : List Nat} (s : S L H) (Pv : Addr → Nat → Hp → Prop) (h0 : ∀ D H1, S (pts D (.lst []) :: L) H1 → Pv D 0 H1) (hw : ∀ x, wipe (List.set (wipe σ vs) j (some x)) vs = wipe σ vs)
    (hs : ∀ (D : Addr) (i : Nat) (c : Nat) H1, l[i]? = some c → Pv D i H1 → tt (List.set (wipe σ vs) j (some (T [c]))) H1 (zPut te D (Pv D (i + 1)) (List.set (wipe σ vs) j (some (T [c])))))
    (hd : ∀ D H1, Pv D l.length H1 → Q (.ref D) H1) : zLc (gName j) tt te vs σ Q (Its ⟨l.toArray⟩) H := by
  have w : Walk (Its (⟨l.toArray⟩ : Str)) l.length (fun _ => True) (fun i H v H' => H' = H ∧ ∃ c, l[i]? = some c ∧ v = T [c]) := by
    have := walk_str (z := (⟨l.toArray⟩ : Str))
    simpa using this
  refine lcW w Pv (fun D H1 hD e h => h0 D H1 (s.new hD e h)) (fun D i H' _ m => trivial) ?_ (fun D H1 _ m => hd D H1 m)
  rintro D i x H1 _ hD hi m ⟨rfl, c, hc, rfl⟩
  exact ⟨hw _, hs D i c _ hc m⟩
end
end Z
namespace Z
open PySem PySem.Spec PyProof.Rows L2
theorem S.apart {A B : Asn} {L M N : List Asn} {H : Hp} (s : S L H) (p : Pick A L M) (q : Pick B M N) : ∃ h g, A h ∧ B g ∧ Ex h H ∧ Ex g H ∧ Dis h g := by
  obtain ⟨h, g, x, y, c, d, f⟩ := S.pick p s
  obtain ⟨h2, z, e2⟩ := S.of y q
  exact ⟨h, h2, x, z, c, e2.trans d, f.sub e2⟩
end Z
namespace Z
open PySem PySem.Spec PyProof.Rows L2
section
variable {σ : L2.St} {H : Hp} {D : Ends} {tb : TS} {te tf : TE} {tu : TT} {Q : Bool → Hp → Prop} {R : VK} {q : Prop} [Decidable q]
theorem zor_kt (hq : q) (h : tu σ H Q) : zOr tu σ Q (!decide q) H := zor_n (fun n => absurd hq n) fun _ => h
theorem zor_kf (hq : ¬ q) (h : Q true H) : zOr tu σ Q (!decide q) H := zor_n (fun _ => h) fun n => absurd n hq
theorem zand_kt (hq : q) (h : Q false H) : zAnd tu σ Q (!decide q) H := zand_n (fun n => absurd hq n) fun _ => h
theorem zand_kf (hq : ¬ q) (h : tu σ H Q) : zAnd tu σ Q (!decide q) H := zand_n (fun _ => h) fun n => absurd n hq
theorem zor_dt (hq : q) (h : Q true H) : zOr tu σ Q (decide q) H := zor_d (fun _ => h) fun n => absurd hq n
theorem zor_df (hq : ¬ q) (h : tu σ H Q) : zOr tu σ Q (decide q) H := zor_d (fun n => absurd n hq) fun _ => h
theorem zand_dt (hq : q) (h : tu σ H Q) : zAnd tu σ Q (decide q) H := zand_d (fun _ => h) fun n => absurd hq n
theorem zand_df (hq : ¬ q) (h : Q false H) : zAnd tu σ Q (decide q) H := zand_d (fun n => absurd n hq) fun _ => h
end
end Z
namespace Z
open PySem PySem.Spec PyProof.Rows L2
section
variable {σ : L2.St} {H : Hp} {D : Addr} {N : Hp → Prop} {te : TE} {tb : TE} {Q : VK} {q : Prop} [Decidable q]
theorem zandv_dt (hq : q) (h : tb σ H Q) : zAndV tb σ Q (.bl (decide q)) H := zandv_d (fun _ => h) fun n => absurd hq n
theorem zandv_df (hq : ¬ q) (h : Q (.bl false) H) : zAndV tb σ Q (.bl (decide q)) H := zandv_d (fun n => absurd n hq) fun _ => h
theorem zorv_dt (hq : q) (h : Q (.bl true) H) : zOrV tb σ Q (.bl (decide q)) H := zorv_d (fun _ => h) fun n => absurd hq n
theorem zorv_df (hq : ¬ q) (h : tb σ H Q) : zOrV tb σ Q (.bl (decide q)) H := zorv_d (fun n => absurd n hq) fun _ => h
theorem zput_dt (hq : q) (h : te σ H (zPut1 D N)) : zPut te D N σ (decide q) H := zput_d (fun _ => h) fun n => absurd hq n
theorem zput_df (hq : ¬ q) (h : N H) : zPut te D N σ (decide q) H := zput_d (fun n => absurd n hq) fun _ => h
theorem zput_nt (hq : ¬ q) (h : te σ H (zPut1 D N)) : zPut te D N σ (!decide q) H := zput_n (fun _ => h) fun n => absurd n hq
theorem zput_nf (hq : q) (h : N H) : zPut te D N σ (!decide q) H := zput_n (fun n => absurd hq n) fun _ => h
end
end Z
namespace Z
open PySem PySem.Spec PyProof.Rows L2
section
variable {K : PySem.W.Frag} {H : Hp} {Q : VK} {l : List Nat} {i : Int}
theorem neII_r (h : Q (.bl false) H) : rNeZ K (.int i) (.int i) H Q := neI (by rw [decide_eq_true rfl]; exact h)
end
end Z
namespace Z
open PySem PySem.Spec PyProof.Rows L2
section
variable {σ : L2.St} {H : Hp} {te : TE} {Q : VK} {j : Nat} {L : List Asn}
/-- items made one behind the other -/
def chn (te : TE) (f : Nat → L2.St) (D : Addr) (Q : VK) : Nat → Nat → Hp → Prop
  | 0, _ => fun H => Q (.ref D) H
  | n + 1, i => fun H => te (f i) H (zPut1 D (chn te f D Q n (i + 1)))
theorem lcRn {vs : List Nat} {lo : Int} {n : Nat} (s : S L H) (hw : ∀ x, wipe (List.set (wipe σ vs) j (some x)) vs = wipe σ vs)
    (h : ∀ D H1, S (pts D (.lst []) :: L) H1 → chn te (fun i => List.set (wipe σ vs) j (some (.int (lo + (i : Nat))))) D Q n 0 H1) : zLc (gName j) tYes te vs σ Q (Itr lo n) H := by
  refine lcRi s (fun D i H' => chn te (fun i => List.set (wipe σ vs) j (some (.int (lo + (i : Nat))))) D Q (n - i) i H') h hw (fun D i H1 hi p => ?_) fun D H1 p => ?_
  · have e : n - i = n - (i + 1) + 1 := by omega
    rw [e] at p
    exact tyes_ (zput_t p)
  · rw [Nat.sub_self] at p
    exact p
theorem lcR2 {vs : List Nat} {lo : Int} (s : S L H) (hw : ∀ x, wipe (List.set (wipe σ vs) j (some x)) vs = wipe σ vs)
    (h : ∀ D H1, S (pts D (.lst []) :: L) H1 → te (List.set (wipe σ vs) j (some (.int (lo + (0 : Nat))))) H1 (zPut1 D fun H2 => te (List.set (wipe σ vs) j (some (.int (lo + (1 : Nat))))) H2 (zPut1 D fun H3 => Q (.ref D) H3))) : zLc (gName j) tYes te vs σ Q (Itr lo 2) H :=
  lcRn s hw h
theorem lcR3 {vs : List Nat} {lo : Int} (s : S L H) (hw : ∀ x, wipe (List.set (wipe σ vs) j (some x)) vs = wipe σ vs)
    (h : ∀ D H1, S (pts D (.lst []) :: L) H1 → te (List.set (wipe σ vs) j (some (.int (lo + (0 : Nat))))) H1 (zPut1 D fun H2 => te (List.set (wipe σ vs) j (some (.int (lo + (1 : Nat))))) H2 (zPut1 D fun H3 => te (List.set (wipe σ vs) j (some (.int (lo + (2 : Nat))))) H3 (zPut1 D fun H4 => Q (.ref D) H4)))) : zLc (gName j) tYes te vs σ Q (Itr lo 3) H :=
  lcRn s hw h
end
end Z
namespace Z
open PySem PySem.Spec PyProof.Rows L2
section
variable {α : Type} {x y z : α} {d : Int}
theorem at2_0 (h : d = 0) : atI [x, y] d = some x := by rw [h]; rfl
theorem at2_1 (h : d = 1) : atI [x, y] d = some y := by rw [h]; rfl
theorem at3_0 (h : d = 0) : atI [x, y, z] d = some x := by rw [h]; rfl
theorem at3_1 (h : d = 1) : atI [x, y, z] d = some y := by rw [h]; rfl
theorem at3_2 (h : d = 2) : atI [x, y, z] d = some z := by rw [h]; rfl
theorem ix_0 {n : Nat} (h : d = 0) : ixN (n + 1) d = some 0 := by
  rw [h]; unfold ixN; rw [if_pos (Int.le_refl 0), if_pos (by omega)]; rfl
theorem ix_1 {n : Nat} (h : d = 1) : ixN (n + 2) d = some 1 := by
  rw [h]; unfold ixN; rw [if_pos (by omega), if_pos (by omega)]; rfl
theorem ix_2 {n : Nat} (h : d = 2) : ixN (n + 3) d = some 2 := by
  rw [h]; unfold ixN; rw [if_pos (by omega), if_pos (by omega)]; rfl
end
section
variable {H : Hp} {a : Addr} {v : V} {L M : List Asn}
theorem setL_S {xs xs' : List V} {k : Int} {n : Nat} {Q : Hp → Prop} (s : S L H) (p : Rep (pts a (.lst xs)) (pts a (.lst xs')) L M) (e2 : ixN xs.length k = some n) (e : xs.set n v = xs') (h : ∀ H', S M H' → Q H') : rSetL (.ref a) (.int k) v H Q := by
  obtain ⟨O, p1, p2⟩ := p.picks
  refine setL_ (s.at_ p1) e2 fun H' q b => h H' ?_
  rw [e] at q
  exact s.set p rfl q b
end
end Z
/-! Z, part W: what kind of thing is asked -/
namespace Z
open PySem PySem.Spec PyProof.Rows L2
theorem gdE {t : L2.St → Hp → VK → Prop} {σ : L2.St} {H : Hp} {Q : VK} (h : t σ H Q) : t σ H Q := h
theorem gdS {t : Ends → L2.St → Hp → Prop} {D : Ends} {σ : L2.St} {H : Hp} (h : t D σ H) : t D σ H := h
theorem gdR {t : V → Hp → VK → Prop} {x : V} {H : Hp} {Q : VK} (h : t x H Q) : t x H Q := h
theorem gdC {t : List V → Hp → VK → Prop} {x : List V} {H : Hp} {Q : VK} (h : t x H Q) : t x H Q := h
theorem gdV {t : V → Hp → Prop} {x : V} {H : Hp} (h : t x H) : t x H := h
theorem gdB {t : Bool → Hp → Prop} {x : Bool} {H : Hp} (h : t x H) : t x H := h
theorem gdL {t : List V → Hp → Prop} {x : List V} {H : Hp} (h : t x H) : t x H := h
theorem gdI {t : L2.St → Hp → (It → Hp → Prop) → Prop} {σ : L2.St} {H : Hp} {Q : It → Hp → Prop} (h : t σ H Q) : t σ H Q := h
theorem gdG {t : L2.St → Hp → (L2.St → Hp → Prop) → Prop} {σ : L2.St} {H : Hp} {Q : L2.St → Hp → Prop} (h : t σ H Q) : t σ H Q := h
theorem gdT {t : L2.St → Hp → (Bool → Hp → Prop) → Prop} {σ : L2.St} {H : Hp} {Q : Bool → Hp → Prop} (h : t σ H Q) : t σ H Q := h
theorem gdP {t : List V → Hp → VK → XK → Prop} {x : List V} {H : Hp} {Q : VK} {E : XK} (h : t x H Q E) : t x H Q E := h
theorem gh_tSeq {a0 a1 a2 a3 a4} (h : @L2.tSeq a0 a1 a2 a3 a4) : @L2.tSeq a0 a1 a2 a3 a4 := h
theorem gh_rAddZ {a0 a1 a2 a3 a4} (h : @Z.rAddZ a0 a1 a2 a3 a4) : @Z.rAddZ a0 a1 a2 a3 a4 := h
theorem gh_rLenZ {a0 a1 a2 a3} (h : @Z.rLenZ a0 a1 a2 a3) : @Z.rLenZ a0 a1 a2 a3 := h
theorem gh_rIxZ {a0 a1 a2 a3 a4} (h : @Z.rIxZ a0 a1 a2 a3 a4) : @Z.rIxZ a0 a1 a2 a3 a4 := h
theorem gh_rMulZ {a0 a1 a2 a3} (h : @Z.rMulZ a0 a1 a2 a3) : @Z.rMulZ a0 a1 a2 a3 := h
theorem gh_rEqZ {a0 a1 a2 a3 a4} (h : @Z.rEqZ a0 a1 a2 a3 a4) : @Z.rEqZ a0 a1 a2 a3 a4 := h
theorem gh_rNeZ {a0 a1 a2 a3 a4} (h : @Z.rNeZ a0 a1 a2 a3 a4) : @Z.rNeZ a0 a1 a2 a3 a4 := h
theorem gh_zIf {a0 a1 a2 a3 a4 a5} (h : @Z.zIf a0 a1 a2 a3 a4 a5) : @Z.zIf a0 a1 a2 a3 a4 a5 := h
theorem gh_tJs {a0 a1 a2 a3 a4} (h : @L2.tJs a0 a1 a2 a3 a4) : @L2.tJs a0 a1 a2 a3 a4 := h
theorem gh_zOr {a0 a1 a2 a3 a4} (h : @Z.zOr a0 a1 a2 a3 a4) : @Z.zOr a0 a1 a2 a3 a4 := h
theorem gh_zAnd {a0 a1 a2 a3 a4} (h : @Z.zAnd a0 a1 a2 a3 a4) : @Z.zAnd a0 a1 a2 a3 a4 := h
theorem gh_zIfE {a0 a1 a2 a3 a4 a5} (h : @Z.zIfE a0 a1 a2 a3 a4 a5) : @Z.zIfE a0 a1 a2 a3 a4 a5 := h
theorem gh_rIsZ {a0 a1 a2 a3} (h : @Z.rIsZ a0 a1 a2 a3) : @Z.rIsZ a0 a1 a2 a3 := h
theorem gh_rIsN {a0 a1 a2 a3} (h : @L2.rIsN a0 a1 a2 a3) : @L2.rIsN a0 a1 a2 a3 := h
theorem gh_rNotN {a0 a1 a2 a3} (h : @L2.rNotN a0 a1 a2 a3) : @L2.rNotN a0 a1 a2 a3 := h
theorem gh_rIntZ {a0 a1 a2} (h : @Z.rIntZ a0 a1 a2) : @Z.rIntZ a0 a1 a2 := h
theorem gh_zPut {a0 a1 a2 a3 a4 a5} (h : @Z.zPut a0 a1 a2 a3 a4 a5) : @Z.zPut a0 a1 a2 a3 a4 a5 := h
theorem gh_zAndV {a0 a1 a2 a3 a4} (h : @Z.zAndV a0 a1 a2 a3 a4) : @Z.zAndV a0 a1 a2 a3 a4 := h
theorem gh_zOrV {a0 a1 a2 a3 a4} (h : @Z.zOrV a0 a1 a2 a3 a4) : @Z.zOrV a0 a1 a2 a3 a4 := h
end Z
/-! Z, part V: dicts: displays, a key's value -/
namespace Z
open PySem PySem.Spec PyProof.Rows L2
/-- a key as a value, back -/
def keyOf : V → Key
  | .int i => .inl i
  | .str x => .inr x
  | _ => .inl 0
section
variable {σ : L2.St} {H : Hp} {td ty tk tv : TE} {Q : VK} {L : List Asn} {a p : Addr} {trs : List (TE × TE)} {R : List (V × V) → Hp → Prop}
def zDGet (a : Addr) (Q : VK) : VK := fun y H2 => ∃ v, DGet H2 a y (some v) ∧ Q v H2
theorem dget_ (h : td σ H fun x H1 => ty σ H1 fun y H2 => ∃ a, x = V.ref a ∧ zDGet a Q y H2) : tDGet td ty σ H Q := by
  unfold tDGet
  have e : (fun x H1 => ty σ H1 fun y H2 => ∃ a, x = V.ref a ∧ zDGet a Q y H2) = (fun x H1 => ty σ H1 fun y H2 => ∃ a v, x = .ref a ∧ DGet H2 a y (some v) ∧ Q v H2) := by
    funext x H1
    congr 1
    funext y H2
    apply propext
    unfold zDGet
    constructor
    · rintro ⟨a, e, v, h⟩; exact ⟨a, v, e, h⟩
    · rintro ⟨a, v, e, h⟩; exact ⟨a, e, v, h⟩
  rw [e] at h
  exact h
theorem zdg_ {kvs : List (Key × V)} {y v : V} {k : Key} (e : H a = some (.dK kvs)) (ey : y = kV k) (hv : valV kvs k = some v) (h : Q v H) : ∃ b, V.ref a = .ref b ∧ zDGet b Q y H :=
  ⟨a, rfl, v, .inl ⟨kvs, k, .inl e, ey, hv.symm⟩, h⟩
theorem prs_ (h : tk σ H fun x H1 => tv σ H1 fun y H2 => tPairs trs σ H2 fun ps H3 => R ((x, y) :: ps) H3) : tPairs ((tk, tv) :: trs) σ H R := h
theorem prs0_ (h : R [] H) : tPairs [] σ H R := h
/-- the pairs of a display, put into it -/
def zDisp (p : Addr) (Q : VK) : List (V × V) → Hp → Prop := fun ps H2 => H2 p = some (.dK []) ∧ ∃ kvs : List (Key × V), ps = kvs.map (fun kv => (kV kv.1, kv.2)) ∧ kvs.length ≤ 15 ∧ Q (.ref p) (upd H2 p (.dK (mergeK [] kvs)))
theorem disp_ (s : S L H) (h : ∀ p H', S (pts p (.dK []) :: L) H' → tPairs trs σ H' (zDisp p Q)) : tDisp trs σ H Q := fun p hp => h p _ (s.new hp (Ex.new hp) upd_same)
theorem zdisp_ {ps : List (V × V)} {M : List Asn} {kvs : List (Key × V)} (s : S L H) (r : Rep (pts p (.dK [])) (pts p (.dK kvs)) L M) (e1 : ps = (ps.map fun q => (keyOf q.1, q.2)).map fun kv => (kV kv.1, kv.2)) (e2 : ps.length ≤ 15) (e3 : mergeK [] (ps.map fun q => (keyOf q.1, q.2)) = kvs)
    (h : ∀ H', S M H' → Q (.ref p) H') : zDisp p Q ps H := by
  obtain ⟨N, p1, p2⟩ := r.picks
  refine ⟨s.at_ p1, _, e1, by rw [List.length_map]; exact e2, ?_⟩
  rw [e3]
  exact h _ (s.set r rfl upd_same (But.upd))
end
section
variable {X : Cx} {o i : Expr} {pos : Pos} {td ty : TE}
theorem k_dget {K : PySem.W.Frag} (hu : X.A.units + 64 < cLine) (ho : PE X o td) (hi : PE X i ty) (hs : NoSl i) : PE X (.Subscript o i pos) (tDGet td ty) := pe_dget (by omega) ho hi hs
end
section
variable {H : Hp} {a : Addr} {K : PySem.W.Frag} {Q : VK} {b c : Bool}
theorem all0_ (e : H a = some (.lst [])) (h : Q (.bl true) H) : rAll K [.ref a] H Q := all_ (bs := []) e h
theorem all1_ (e : H a = some (.lst [.bl b])) (h : Q (.bl b) H) : rAll K [.ref a] H Q := all_ (bs := [b]) e (by rw [show ([b] : List Bool).all id = b by simp]; exact h)
theorem all2_ (e : H a = some (.lst [.bl b, .bl c])) (h : Q (.bl (b && c)) H) : rAll K [.ref a] H Q := all_ (bs := [b, c]) e (by rw [show ([b, c] : List Bool).all id = (b && c) by simp]; exact h)
theorem all2t_ (e : H a = some (.lst [.bl true, .bl true])) (h : Q (.bl true) H) : rAll K [.ref a] H Q := all2_ e h
end
section
variable {H : Hp} {a : Addr} {K : PySem.W.Frag} {Q : VK} {xs : List V}
theorem listRL_ (e : H a = some (.lst xs)) (h : ∀ p H', H p = none → Ex H H' → H' p = some (.lst xs) → Q (.ref p) H') : rListR K [.ref a] H Q := listR_ (listof_ e h)
theorem listRU_ (e : H a = some (.tup xs)) (h : ∀ p H', H p = none → Ex H H' → H' p = some (.lst xs) → Q (.ref p) H') : rListR K [.ref a] H Q := listR_ (listofU_ e h)
end
section
variable {σ : L2.St} {H : Hp} {D : Ends} {tb : TS} {K : PySem.W.Frag} {j : Nat} {a : Addr} {g : TG} {tt : TT} {te : TE} {Q : VK}
/-- over a tuple -/
theorem forU {xs : List V} (Pv : Nat → L2.St → Hp → Prop) (h0 : Pv 0 σ H) (hl : ∀ i σ H, i ≤ xs.length → Pv i σ H → H a = some (.tup xs))
    (hs : ∀ (i : Nat) (x : V) σ H, xs[i]? = some x → Pv i σ H → g x σ H fun σ2 H2 => tb { D with nx := Pv (i + 1), ct := Pv (i + 1), bk := D.nx } σ2 H2) (hd : ∀ σ H, Pv xs.length σ H → D.nx σ H) :
    zFor g tb D σ (Itt K a) H := by
  refine forZ walk_tup Pv h0 (fun i σ H h p => SqT.of (hl i σ H h p)) ?_ hd
  rintro i x σ H _ hi p ⟨rfl, hx⟩
  exact hs i x σ _ hx p
theorem lcUi {xs : List V} {vs : List Nat} (Pv : Addr → Nat → Hp → Prop) (h0 : ∀ D H1, H D = none → Ex H H1 → H1 D = some (.lst []) → Pv D 0 H1) (hl : ∀ D i H', Pv D i H' → H' a = some (.tup xs))
    (hs : ∀ D (i : Nat) x H1, H D = none → xs[i]? = some x → Pv D i H1 → g x (wipe σ vs) H1 fun σ2 H3 => wipe σ2 vs = wipe σ vs ∧ tt σ2 H3 (zPut te D (Pv D (i + 1)) σ2))
    (hd : ∀ D H1, H D = none → Pv D xs.length H1 → Q (.ref D) H1) : zLc g tt te vs σ Q (Itt K a) H := by
  refine lcW walk_tup Pv h0 (fun D i H' _ p => SqT.of (hl D i H' p)) ?_ hd
  rintro D i x H1 _ hD hi p ⟨rfl, hx⟩
  exact hs D i x _ hD hx p
end
section
variable {H : Hp} {a : Addr} {K : PySem.W.Frag} {Q : VK} {xs : List V} {x : V} {b : Bool}
theorem inL_ (e : H a = some (.lst xs)) (fx : flatV x = true) (fs : xs.all flatV = true) (h : Q (.bl (inV x xs)) H) : rInZ K x (.ref a) H Q := .inr ⟨a, xs, rfl, .inl (SqL.of e), fx, fs, h⟩
theorem inLt_ (e : H a = some (.lst xs)) (fx : flatV x = true) (fs : xs.all flatV = true) (hv : inV x xs = true) (h : Q (.bl true) H) : rInZ K x (.ref a) H Q := inL_ e fx fs (by rw [hv]; exact h)
theorem inLf_ (e : H a = some (.lst xs)) (fx : flatV x = true) (fs : xs.all flatV = true) (hv : inV x xs = false) (h : Q (.bl false) H) : rInZ K x (.ref a) H Q := inL_ e fx fs (by rw [hv]; exact h)
theorem inU_ (e : H a = some (.tup xs)) (fx : flatV x = true) (fs : xs.all flatV = true) (h : Q (.bl (inV x xs)) H) : rInZ K x (.ref a) H Q := .inr ⟨a, xs, rfl, .inr (SqT.of e), fx, fs, h⟩
theorem inUt_ (e : H a = some (.tup xs)) (fx : flatV x = true) (fs : xs.all flatV = true) (hv : inV x xs = true) (h : Q (.bl true) H) : rInZ K x (.ref a) H Q := inU_ e fx fs (by rw [hv]; exact h)
theorem inUf_ (e : H a = some (.tup xs)) (fx : flatV x = true) (fs : xs.all flatV = true) (hv : inV x xs = false) (h : Q (.bl false) H) : rInZ K x (.ref a) H Q := inU_ e fx fs (by rw [hv]; exact h)
theorem niL_ (e : H a = some (.lst xs)) (fx : flatV x = true) (fs : xs.all flatV = true) (h : Q (.bl (!inV x xs)) H) : rNiZ K x (.ref a) H Q := .inr ⟨a, xs, rfl, .inl (SqL.of e), fx, fs, h⟩
theorem niLt_ (e : H a = some (.lst xs)) (fx : flatV x = true) (fs : xs.all flatV = true) (hv : inV x xs = false) (h : Q (.bl true) H) : rNiZ K x (.ref a) H Q := niL_ e fx fs (by rw [hv]; exact h)
theorem niLf_ (e : H a = some (.lst xs)) (fx : flatV x = true) (fs : xs.all flatV = true) (hv : inV x xs = true) (h : Q (.bl false) H) : rNiZ K x (.ref a) H Q := niL_ e fx fs (by rw [hv]; exact h)
end
end Z
/-! Z, part U: the head by one run of the kernel, its facts by names -/
namespace Z
open PySem PySem.Spec PyProof.Rows L2
section
variable {fb : PySem.W.Frag → Bool} {fs : List ((Str × Option Str) × He.FnW)} {ts : List He.Tab} {w : World} {K : PySem.W.Frag}
theorem SaysZ.fact (c : SaysZ fb fs ts w K) : fb K = true := congrArg (fun z : AlZ => z.1) c
theorem SaysZ.fn (c : SaysZ fb fs ts w K) (i : Nat) {d : (Str × Option Str) × He.FnW} (h : fs[i]? = some d := by rfl) : He.fnW K d.1 = d.2 := by
  have e : fs.map (fun d => He.fnW K d.1) = fs.map fun d => d.2 := congrArg (fun z : AlZ => z.2.1) c
  have e2 : (fs.map fun d => He.fnW K d.1)[i]? = (fs.map fun d => d.2)[i]? := by rw [e]
  rw [List.getElem?_map, List.getElem?_map, h] at e2
  exact Option.some.inj e2
theorem SaysZ.tab (c : SaysZ fb fs ts w K) (i : Nat) {t : He.Tab} (h : ts[i]? = some t := by rfl) : ∃ es n, KDict K w (t.1 K) es n := by
  have e : ts.map (fun t => He.dicW K (t.1 K)) = ts.map fun t => some (He.keysIn w.params t.2) := congrArg (fun z : AlZ => z.2.2) c
  have e2 : (ts.map fun t => He.dicW K (t.1 K))[i]? = (ts.map fun t => some (He.keysIn w.params t.2))[i]? := by rw [e]
  rw [List.getElem?_map, List.getElem?_map, h] at e2
  exact He.dicW_ok (Option.some.inj e2)
theorem SaysZ.tabW (c : SaysZ fb fs ts w K) (i : Nat) {t : He.Tab} (h : ts[i]? = some t := by rfl) : He.dicW K (t.1 K) = some (He.keysIn w.params t.2) := by
  have e : ts.map (fun t => He.dicW K (t.1 K)) = ts.map fun t => some (He.keysIn w.params t.2) := congrArg (fun z : AlZ => z.2.2) c
  have e2 := congrArg (fun l => l[i]?) e
  simp only [List.getElem?_map, h] at e2
  exact Option.some.inj e2
end
/-! ### a key that a table of the top lacks -/
theorem lack_key {P : Params} {z : Str} : ∀ {l : List DictEntry} {ks : List Str}, l.map He.keyOf = He.keysIn P ks → (∀ k ∈ ks, k ≠ z) → l.find? (·.key.isStr z) = none ∧ l.any (·.refKey) = false
  | [], _, _, _ => ⟨rfl, rfl⟩
  | e :: l, [], h, _ => by cases h
  | e :: l, k :: ks, h, hz => by
    obtain ⟨h2, h3⟩ := List.cons.inj (show He.keyOf e :: l.map He.keyOf = some (k, PyData.keyHash P k) :: He.keysIn P ks from h)
    obtain ⟨g1, g2⟩ := lack_key h3 fun k hk => hz k (List.mem_cons_of_mem _ hk)
    have hk := hz k List.mem_cons_self
    cases e with
    | mk hash key val =>
      cases key with
      | str x t =>
        have ex : x = k := (Prod.mk.inj (Option.some.inj (show some (x, hash) = _ from h2))).1
        subst ex
        have n1 : (Value.str x t).isStr z = false := by
          show (x == z) = false
          rw [beq_eq_false_iff_ne]; exact hk
        exact ⟨by rw [List.find?_cons, show (DictEntry.key _).isStr z = false from n1]; exact g1, by rw [List.any_cons, g2]; rfl⟩
      | _ => cases h2
theorem tab_miss {K : PySem.W.Frag} {a : Addr} {P : Params} {ks : List Str} {z : Str} (h : He.dicW K a = some (He.keysIn P ks)) (hz : ∀ k ∈ ks, k ≠ z) : PySem.W.nsIn K a z = some none := by
  unfold He.dicW at h
  unfold PySem.W.nsIn
  split at h
  · rename_i c es n sl q
    rw [q]
    split at h
    · obtain ⟨g1, g2⟩ := lack_key (Option.some.inj h) hz
      show (match es.toList.find? (·.key.isStr z) with
        | some e => some (some e.val)
        | none => if es.toList.any (·.refKey) then none else some none) = some none
      rw [g1, g2]
      rfl
    · cases h
  · cases h
/-! ### a def's object -/
theorem fn_at {K : PySem.W.Frag} {p : Str × Option Str} {x q : Str} {ar : Arguments} {bo : List Stmt} {sc : Scope} {pr : Value → Value → Value → Bool} (e : He.fnW K p = some (x, q, ar, .stmts bo, sc, mainGlobals, [], builtinsNs)) (c : fnB K p pr = true) :
    ∃ oc od dV kV dc pm an cd ct sl, K.lookup (He.fAd K p) = some ⟨oc, od, .func (PySem.W.fnOf x q ar bo sc dV kV dc pm an cd ct), sl⟩ ∧ pr dV kV cd = true := by
  unfold fnB at c
  unfold He.fnW at e
  cases hq : K.lookup (He.fAd K p) with
  | none => rw [hq] at c; cases c
  | some o =>
    obtain ⟨oc, od, dt, osl⟩ := o
    rw [hq] at c e
    cases dt with
    | func fd =>
      obtain ⟨n1, n2, n3, n4, n5, n6, n7, n8, n9, n10, n11, n12, n13, n14, n15⟩ := fd
      have e2 : (some (n1, n2, n3, n4, n5, n6, n7, n15) : He.FnW) = some (x, q, ar, .stmts bo, sc, mainGlobals, [], builtinsNs) := e
      simp only [Option.some.injEq, Prod.mk.injEq] at e2
      obtain ⟨h1, h2, h3, h4, h5, h6, h7, h8⟩ := e2
      subst h1 h2 h3 h4 h5 h6 h7 h8
      exact ⟨oc, od, n8, n9, n10, n11, n12, n13, n14, osl, rfl, c⟩
    | _ => cases c
theorem none_ok {v : Value} (h : noneB v = true) : v = .none := by cases v <;> first | rfl | cases h
theorem dfl_at {K : PySem.W.Frag} {dV : Value} {v : V} {vs : List V} (h : He.dflB K dV (v :: vs) = true) : ∃ T oc od us n sl, dV = .ref T ∧ K.lookup T = some ⟨oc, od, .seq (us : List Value).toArray n, sl⟩ ∧ Vals (v :: vs) us := by
  cases dV with
  | ref T =>
    have h1 : (match K.lookup T with
      | some ⟨_, _, .seq its _, _⟩ => He.relAll (v :: vs) its.toList
      | _ => false) = true := h
    cases q : K.lookup T with
    | none => rw [q] at h1; cases h1
    | some o =>
      obtain ⟨oc, od, dt, osl⟩ := o
      rw [q] at h1
      cases dt with
      | seq its n => exact ⟨T, oc, od, its.toList, n, osl, rfl, by rw [q] <;> simp, He.relAll_ok h1⟩
      | _ => cases h1
  | _ => cases h
theorem kwd_at {K : PySem.W.Frag} {kV : Value} {q : Str × V} {qs : List (Str × V)} (h : He.kwdB K kV (q :: qs) = true) : ∃ D, kV = .ref D ∧ ∀ z ∈ q :: qs, ∃ u, PySem.W.nsIn K D z.1 = some (some u) ∧ RelV z.2 u := by
  cases kV with
  | ref D =>
    refine ⟨D, rfl, fun z hz => ?_⟩
    have h1 : ((q :: qs).all fun q => (match PySem.W.nsIn K D q.1 with
      | some (some u) => He.relB q.2 u
      | _ => false)) = true := h
    have h2 := List.all_eq_true.mp h1 z hz
    cases e : PySem.W.nsIn K D z.1 with
    | none => rw [e] at h2; cases h2
    | some r =>
      rw [e] at h2
      cases r with
      | none => cases h2
      | some u => exact ⟨u, rfl, He.relB_ok h2⟩
  | _ => cases h
theorem vals_c {v : V} {vs : List V} {us : List Value} (h : Vals (v :: vs) us) : ∃ u r, us = u :: r ∧ RelV v u ∧ Vals vs r := by
  cases h with
  | cons a b => exact ⟨_, _, rfl, a, b⟩
theorem vals_n {us : List Value} (h : Vals [] us) : us = [] := by cases h; rfl
theorem all_get {l : List Bool} (h : l.all id = true) (i : Nat) {b : Bool} (e : l[i]? = some b := by rfl) : b = true := List.all_eq_true.mp h b (List.mem_of_getElem? e)
theorem cls_ok {o : Option PySem.W.CFound} {n : String} (h : clsB o n = true) : o = some (.val (.builtin n)) := by
  unfold clsB at h
  split at h
  · rw [of_decide_eq_true h]
  · cases h
/-! ### a class of errors -/
theorem exc_at {K : PySem.W.Frag} {C : Addr} {tl : List Value} {newId : String} (h : excZ K C tl newId = true) :
    ∃ nm q N bs sn sub ab col dd k0 k1 k2 k3 k5, K.lookup C = some (excClassObj nm q C N bs tl true sn sub ab col dd k0 k1 k2 k3 k5 newId) := by
  unfold excZ at h
  cases hq : K.lookup C with
  | none => rw [hq] at h; cases h
  | some o =>
    obtain ⟨oc, od, dt, osl⟩ := o
    rw [hq] at h
    cases oc with
    | type t =>
      cases dt with
      | cls cd =>
        obtain ⟨h1, h2⟩ := He.ba h
        split at h2
        · rename_i C' bm s0 s1 s2 s3 n s5 em es
          obtain ⟨h3, h2⟩ := He.ba h2
          obtain ⟨h4, h2⟩ := He.ba h2
          obtain ⟨h5, h2⟩ := He.ba h2
          obtain ⟨h6, h7⟩ := He.ba h2
          have e1 : t = "type" := of_decide_eq_true h1
          have e3 : C' = C := of_decide_eq_true h3
          have e4 : n = newId := of_decide_eq_true h4
          have e7 : bm = tl := of_decide_eq_true h7
          obtain ⟨a1, a2, a3, a4, a5, a6, a7, a8, a9, a10, a11⟩ := cd
          have es2 : osl = #[s0, s1, s2, s3, some (.builtin n), s5] := by rw [← Array.toArray_toList (xs := osl), es]
          have h5' : a11 = false := by simpa using h5
          have em2 : a3 = .ref C' :: bm := em
          have h6' : a6 = true := h6
          subst e1 e3 e4 e7 es2 h5' em2 h6'
          exact ⟨_, _, _, _, _, _, _, _, _, _, _, _, _, _, rfl⟩
        · cases h2
      | _ => cases h
    | _ => cases dt <;> cases h
/-! ### the law's walk -/
theorem walk_h {l : PySem.W.OpenLaw} {n k : Nat} {q : Program} {loose : List Str} {XP : (Str → Option Value) → Heap → Prop} {YP : World → Heap → Prop} {d : DefRec} {sp : PySem.W.Frag → Sp} {x : Str}
    (hn : l.most = some n) (hn2 : n ≤ sizeLine) (hdf : d.params.defaults = []) (room : Room k callerA)
    (F : ∀ (w : World) (mg : Str → Option Value) (fa : Addr) (h : Heap), YP w h → h.Ns mainGlobals mg → mg d.name = some (.ref fa) →
      ∃ K : PySem.W.Frag, K.In h ∧ ∃ fd : FuncData, (∀ (s : Shared) (u : Value), BindsTo s fd ⟨[u], []⟩ [(x, u)]) ∧
        ∀ base : Heap, K.In base → base.Ns mainGlobals mg → FnG l.prog w K mg base k fa fd [x] (sp K))
    (want : ∀ (K : PySem.W.Frag) (H : Hp) (a : Addr) (ns : List Int), ns.length ≤ n → SqL K H a (ns.map V.int) → sp K [.ref a] H (fun v _ => v = .bl true) fun _ _ _ => False) :
    PySem.W.WalkO q loose XP YP l.row.toRowW d [] (fun f vs => PySem.call f vs) := by
  refine Att.attach_call hn hdf ?_
  intro w s₀ s₁ mg mb fa o pm cd doc a vs ns G Y ho hd hcd hmg obj hints short noGens
  obtain ⟨K, inK, fd, binds, FF⟩ := F w mg fa _ Y G.T.g hmg
  exact law_g inK G.T.g G.T.b G.T.builtins G.T.nolimit noGens obj hints (Nat.le_trans short hn2) room FF binds fun H hS => want _ H a ns short hS
end Z
/-! H, part A: walks and tuples taken apart while an exception is handled -/
namespace Z
open PySem PySem.Spec PyProof.Rows L2 L2H HotX
section
variable {prog : Program} {w : World} {A : Around} {E : Value → Shared → Prop} {s : Shared}
/-- what an iterator at its end does: it lets go, a StopIteration is made, its context the handled one -/
theorem stop_hot {α : Type} {it x1 : Addr} {o : Obj} {vs : Array Value} (hot : HotAt A x1 s.heap) (hno : it ≠ x1) (ho : s.heap.get? it = some o) (hd : o.data = .fields vs) (hsz : 0 < vs.size) :
    wpAny (model prog w) A.in1 (do setField (.ref it) 0 .none; Builtin.SmallTypes.stopIteration : Sem α)
      (fun _ _ => False) (fun e s' => ∃ a, e = .ref a ∧ (∃ oe, s'.heap.get? a = some oe ∧ oe.cls = .type "StopIteration") ∧ Heap.ExtBut it s.heap s'.heap ∧ s' = { s with heap := s'.heap }) s := by
  obtain ⟨hh, o1, v1, h1, d1, c1⟩ := hot
  refine wpAny_bind (wpAny_setField ho hd hsz ?_)
  have keep : ∀ b ob, b ≠ it → s.heap.get? b = some ob → (s.heap.update it (Obj.mapFields (·.setIfInBounds 0 Value.none))).get? b = some ob := fun b ob n e => by rw [Heap.get?_update_other _ _ (Ne.symm n)]; exact e
  have h1' := keep _ _ (Ne.symm hno) h1
  show wpAny _ _ (newExc (.type "StopIteration") [] >>= _) _ _ _
  refine wpAny_bind ?_
  simp only [newExc, newTuple]
  refine wpAny_bind (wpAny_newObj_type ?_ (by size_fits))
  refine wpAny_bind (m := firstArgMember _ _) (wpAny_of_eq (a := Value.none) (by first | rfl | (simp only [firstArgMember]; rfl)) ?_)
  refine wpAny_newObj_type ?_ (by size_fits)
  refine raiseNew_hot ⟨hh, o1, v1, Heap.get?_push_of_some _ (Heap.get?_push_of_some _ h1'), d1, c1⟩ (Nat.ne_of_lt (Heap.lt_size (Heap.get?_push_of_some _ h1'))) (Heap.get?_push_size _ rfl) rfl (by first | (simp; done) | (simp; omega)) ?_
  refine ⟨_, rfl, ⟨_, Heap.get?_update_self _ (Heap.get?_push_size _ rfl) rfl, rfl⟩, fun b ob hb e => ?_, rfl⟩
  have e1 := Heap.get?_push_of_some { cls := .type "tuple", data := .seq ([] : List Value).toArray } (keep b ob hb e)
  rw [Heap.get?_update_other _ _ (Nat.ne_of_gt (Heap.lt_size e1))]
  exact Heap.get?_push_of_some _ e1
theorem list_end_hot {it l x1 : Addr} {i : Nat} {items : Array Value} {Q : Option Value → Shared → Prop} (hot : HotAt A x1 s.heap) (hno : it ≠ x1) (hit : s.heap.IsListIter it l i) (hl : s.heap.IsList l items) (hx : items[i]? = none)
    (hQ : ∀ h', Heap.ExtBut it s.heap h' → Q none { s with heap := h' }) : wpAny (model prog w) A (pyNext (.ref it)) Q E s := by
  obtain ⟨oi, hoi, hci, hdi⟩ := id hit
  obtain ⟨ol, hol, _, nl, hdl⟩ := hl
  have low : wpAny (model prog w) A.in1 (Builtin.«list_iterator.__next__» ⟨[.ref it], []⟩) (fun _ _ => False) (fun e s' => ∃ a, e = .ref a ∧ (∃ oe, s'.heap.get? a = some oe ∧ oe.cls = .type "StopIteration") ∧ Heap.ExtBut it s.heap s'.heap ∧ s' = { s with heap := s'.heap }) s := by
    show wpAny _ _ (field (.ref it) 0 >>= _) _ _ s
    refine wpAny_bind (wpAny_field hoi hdi (x := .ref l) rfl ?_)
    show wpAny _ _ (if (Value.ref l == Value.none) = true then _ else _) _ _ s
    rw [if_neg (show ¬ ((Value.ref l == Value.none) = true) from Bool.false_ne_true)]
    show wpAny _ _ (field (.ref it) 1 >>= _) _ _ s
    refine wpAny_bind (wpAny_field hoi hdi (x := .int i 0) rfl ?_)
    show wpAny _ _ (seqItems? (.ref l) >>= _) _ _ s
    refine wpAny_bind (wpAny_seqItems hol hdl ?_)
    simp only [Int.toNat_natCast, hx]
    refine wpAny_bind (wpAny_rule ?_)
    exact wpAny_mono (stop_hot hot hno hoi hdi (by simp)) (fun _ _ z => False.elim z) fun e s' z => z
  unfold pyNext
  refine wpAny_bind (wpAny_attempt (wpAny_callSpecial?_slot (name := Str.ofString "__next__") hit.typeIs slot_listiter_next
    (wpAny_call_entry slot_listiter_next hit.typeIs entry_listiter_next (wpAny_mono low (fun _ _ z => False.elim z) fun e s' z => ?_) (args_listiter_next _))))
  obtain ⟨a, rfl, ⟨oe, he, hc⟩, ext, es⟩ := z
  refine wpAny_bind (wpAny_isInstance (T := "StopIteration") (b := true) ⟨_, he, hc⟩ isSubtype_stop (wpAny_pure ?_))
  rw [es]
  exact hQ _ ext
theorem tuple_end_hot {it l x1 : Addr} {i : Nat} {items : Array Value} {Q : Option Value → Shared → Prop} (hot : HotAt A x1 s.heap) (hno : it ≠ x1) (hit : IsTupIter s.heap it l i) (hl : IsTup s.heap l items) (hx : items[i]? = none)
    (hQ : ∀ h', Heap.ExtBut it s.heap h' → Q none { s with heap := h' }) : wpAny (model prog w) A (pyNext (.ref it)) Q E s := by
  obtain ⟨oi, hoi, hci, hdi⟩ := id hit
  obtain ⟨ol, hol, _, nl, hdl⟩ := hl
  have low : wpAny (model prog w) A.in1 (Builtin.«tuple_iterator.__next__» ⟨[.ref it], []⟩) (fun _ _ => False) (fun e s' => ∃ a, e = .ref a ∧ (∃ oe, s'.heap.get? a = some oe ∧ oe.cls = .type "StopIteration") ∧ Heap.ExtBut it s.heap s'.heap ∧ s' = { s with heap := s'.heap }) s := by
    show wpAny _ _ (field (.ref it) 0 >>= _) _ _ s
    refine wpAny_bind (wpAny_field hoi hdi (x := .ref l) rfl ?_)
    show wpAny _ _ (if (Value.ref l == Value.none) = true then _ else _) _ _ s
    rw [if_neg (show ¬ ((Value.ref l == Value.none) = true) from Bool.false_ne_true)]
    show wpAny _ _ (field (.ref it) 1 >>= _) _ _ s
    refine wpAny_bind (wpAny_field hoi hdi (x := .int i 0) rfl ?_)
    show wpAny _ _ (seqItems? (.ref l) >>= _) _ _ s
    refine wpAny_bind (wpAny_seqItems hol hdl ?_)
    simp only [Int.toNat_natCast, hx]
    refine wpAny_bind (wpAny_rule ?_)
    exact wpAny_mono (stop_hot hot hno hoi hdi (by simp)) (fun _ _ z => False.elim z) fun e s' z => z
  unfold pyNext
  refine wpAny_bind (wpAny_attempt (wpAny_callSpecial?_slot (name := Str.ofString "__next__") hit.typeIs slot_tupleiter_next
    (wpAny_call_entry slot_tupleiter_next hit.typeIs entry_tupleiter_next (wpAny_mono low (fun _ _ z => False.elim z) fun e s' z => ?_) (args_tupleiter_next _))))
  obtain ⟨a, rfl, ⟨oe, he, hc⟩, ext, es⟩ := z
  refine wpAny_bind (wpAny_isInstance (T := "StopIteration") (b := true) ⟨_, he, hc⟩ isSubtype_stop (wpAny_pure ?_))
  rw [es]
  exact hQ _ ext
theorem HotAt.keep {x1 : Addr} {h h' : Heap} (hot : HotAt A x1 h) (k : ∀ b o, h.get? b = some o → h'.get? b = some o) : HotAt A x1 h' := by
  obtain ⟨hh, o, vs, e, r⟩ := hot
  exact ⟨hh, o, vs, k _ _ e, r⟩
theorem HotAt.lt {x1 : Addr} {h : Heap} (hot : HotAt A x1 h) : x1 < h.objs.size := by
  obtain ⟨_, o, _, e, _⟩ := hot
  exact Heap.lt_size e
/-- a, b, .. = a tuple of that length -/
theorem unpack_hot {t x1 : Addr} {items : Array Value} {targets : List (Bool × (Value → Sem Unit))} {Q : Unit → Shared → Prop} (hot : HotAt A x1 s.heap) (ht : IsTup s.heap t items) (hn : targets.length = items.size) (hstar : targets.findIdx? (·.1) = none)
    (h : ∀ h', Heap.ExtBut s.heap.objs.size s.heap h' → wpAny (model prog w) A (assignInOrder (targets.map (·.2)) items.toList) Q E { s with heap := h' }) : wpAny (model prog w) A (unpack (.ref t) targets) Q E s := by
  have hlt : t ≠ s.heap.objs.size := by obtain ⟨o, ho, _⟩ := ht; exact Nat.ne_of_lt (Heap.lt_size ho)
  have hx := Nat.ne_of_lt (HotAt.lt hot)
  unfold unpack
  rw [hn, hstar]
  refine wpAny_bind (wpAny_holding ?_)
  unfold unpackItems
  refine wpAny_bind ?_
  unfold notIterableAtAll
  refine wpAny_bind (wpAny_specialOf ht.typeIs slot_tuple_iter.lookup ?_)
  refine wpAny_pure ?_
  simp only [Bool.false_eq_true, if_false]
  refine wpAny_bind (wpAny_holding (iter_tuple ht ?_))
  refine wpAny_bind (wpAny_holding (draw_tuple hlt items.size 0 _ _ ⟨_, Heap.get?_push_size _ rfl, rfl, rfl⟩ (ht.push _) (by omega) fun h1 hit1 hs1 => ?_))
  have whole : List.take items.size (List.drop 0 items.toList) = items.toList := by
    rw [List.drop_zero]; exact List.take_of_length_le (by simp)
  rw [whole, if_neg (by simp)]
  have ht1 : IsTup h1 t items := (ht.push _).extBut hs1.extBut hlt
  have hot1 : HotAt A x1 h1 := by
    obtain ⟨hh, o, vs, e, r⟩ := hot
    exact ⟨hh, o, vs, hs1.extBut _ _ hx (Heap.get?_push_of_some _ e), r⟩
  refine wpAny_bind (wpAny_holding (tuple_end_hot hot1 (Ne.symm hx) hit1 ht1 (by simp) fun h2 he2 => ?_))
  simp only [Option.isSome_none, Bool.false_eq_true, if_false]
  exact wpAny_pure (h h2 fun b o hb e => he2 b o hb (hs1.extBut b o hb (Heap.get?_push_of_some _ e)))
end
end Z
/-! H, part B: comprehensions over a list while an exception is handled -/
namespace Z
open PySem PySem.Spec PyProof.Rows L2 L2H HotX
/-- a target's store where p is pinned -/
structure PGP (X : Cx) (p : Addr × Obj) (target : Expr) (t : TG) : Prop where
  run : ∀ (pins : List (Addr × Obj)) (s : Shared) (σ : L2.St) (H : Hp) (v : V) (u : Value) (Q : L2.St → Hp → Prop), Inv X pins σ H s → p ∈ X.pn ++ pins → RelV v u → t v σ H Q →
    wpAny (model X.prog X.w) X.A (assign target X.env u) (fun _ s' => ∃ σ' H', Inv X pins σ' H' s' ∧ Q σ' H') X.xe s
theorem hot_of {X : Cx} {p : Addr × Obj} {pins : List (Addr × Obj)} {σ : L2.St} {H : Hp} {s : Shared} (hot : Hot1 X.A p) (I : Inv X pins σ H s) (m : p ∈ X.pn ++ pins) : HotAt X.A p.1 s.heap := by
  obtain ⟨hh, vs, e, c⟩ := hot
  exact ⟨hh, p.2, vs, (I.pin p m).1, e, c⟩
theorem pg_tupH {X : Cx} {p : Addr × Obj} {es : List Expr} {k n : Nat} {t : TGs} {pos : Pos} (hot : Hot1 X.A p) (h : PGs X es t) (hn : (assignEach es X.env).length = n := by rfl) (hst : (assignEach es X.env).findIdx? (·.1) = none := by rfl) :
    PGP X p (.Tuple es k pos) (gTup X.K n t) := by
  refine ⟨fun pins s σ H v u Q I m r w => ?_⟩
  obtain ⟨a, xs, ev, hq, hl, w⟩ := w
  subst ev
  cases r
  obtain ⟨its, rv, ht, hz⟩ := I.tuple hq
  rw [assign_Tuple]
  refine wpAny_bind (wpAny_standAt (unpack_hot (hot_of hot I m) ht (by simp [hn, ← hl, rv.length]) hst fun h' hx => ?_))
  have I1 : Inv X pins σ H { s with heap := h' } := I.kept (t' := s.toks) fun b o e => hx b o (Nat.ne_of_lt (Heap.lt_size e)) e
  exact h.run pins _ σ H xs _ Q I1 (by simpa using rv) w
section
variable {X : Cx} {p : Addr × Obj}
theorem lc_hot {pins : List (Addr × Obj)} {s : Shared} {σ : L2.St} {H : Hp} {Q : VK} {elt tg iter : Expr} {ifs : List Expr} {scope : Scope} {own : List (Str × Nat)} {pos pos' : Pos} {tl : TE} {g : TG} {tt : TT} {te : TE} {use : Option (Value → Sem Unit)} {Qf : Value → Shared → Prop}
    (hot : Hot1 X.A p) (hp : p ∈ X.pn) (hN : X.N.Nodup) (I : Inv X pins σ H s) (hi : PE X iter tl) (ok : BlkOk X.N X.env.scope scope own)
    (hg : ∀ (s : Shared) (H : Hp) (C : Addr) (cl : List (Str × Addr)) (fp : List Addr), PGP (X.blk s H scope (compEnvC scope cl C X.env) fp) p tg g) (ht : ∀ (s : Shared) (H : Hp) (C : Addr) (cl : List (Str × Addr)) (fp : List Addr), PTs (X.blk s H scope (compEnvC scope cl C X.env) fp) ifs tt)
    (he : ∀ (s : Shared) (H : Hp) (C : Addr) (cl : List (Str × Addr)) (fp : List Addr), PE (X.blk s H scope (compEnvC scope cl C X.env) fp) elt te) (hs : ∀ x, foldedSetIterable iter X.env x = pure x)
    (h : tLc (iList X.K tl) g tt te (own.map (·.2)) σ H Q) (hgo : ∀ {M : Model} {A : Around} {E : Value → Shared → Prop} {s : Shared} {it : Addr} {u : Value} {o : Obj} {vs : Array Value} {R : Unit → Shared → Prop}, s.heap.get? it = some o → o.cls = .type "list_iterator" → o.data = .fields vs → R () s → wpAny M A (letOwnedTupleGo tg (.ref it) u) R E s)
    (hRR : ∀ D C s' m H', Inv X pins σ H' s' → Q (.ref D) H' → s'.heap.Ns C m → FpOk X pins H' C → compPost (model X.prog X.w) X.A X.xe use Qf (.ref D) C (.ok .next) s') :
    wpAny (model X.prog X.w) X.A (comprehension (.ListComp elt [⟨tg, iter, ifs, 0⟩] scope pos) scope X.env pos' (newList []) false (eval iter X.env) use) Qf X.xe s := by
  have hfree : ∀ y ∈ scope.names, y.2 = .free → ∃ c, X.env.cells.lookup y.1 = some c := fun y hy e => by
    rcases ok.free y hy e with k | k
    · exact I.ok.has _ (.inl k)
    · exact I.ok.has _ (.inr k)
  refine wpAny_comprehension_free (use := use) rfl hs (closure_ok hfree) ok.kind (fun y hy e => by rw [ok.uniq y hy, e])
    (thn (hi.run pins s σ H _ I h) fun xv s1 hx => ?_)
  obtain ⟨x, H2, I1, r1, a, ev, ⟨xs, hq⟩, q⟩ := hx
  subst ev
  cases r1
  obtain ⟨its, rv, pl, hz⟩ := I1.list hq
  refine wpAny_pyIter_list pl.isList ?_
  generalize hit : s1.heap.objs.size = it
  generalize hs2 : ({ s1 with heap := s1.heap.push { cls := .type "list_iterator", data := .fields #[.ref a, .int 0 0] } } : Shared) = s2
  have I2 : Inv X pins σ H2 s2 := by
    rw [← hs2]
    exact I1.kept (t' := s1.toks) fun b o e => Heap.get?_push_of_some _ e
  have st2 : s2.heap.IsListIter it a 0 := by
    rw [← hs2, ← hit]
    exact ⟨_, Heap.get?_push_size _ rfl, rfl, rfl⟩
  have f2 : FpOk X pins H2 it := by
    rw [← hit]
    exact I1.fpOk (Nat.le_refl _) (I1.hok.fresh (Nat.le_refl _))
  have pit : p.1 ≠ it := f2.2.2.2.2.2 p (List.mem_append_left _ hp)
  refine wpAny_newObj_type (newEnv_comp ?_) (by show 0 ≤ sizeLine; decide)
  generalize hD : s2.heap.objs.size = D
  have hDn : H2 D = none := I2.hok.fresh (Nat.le_of_eq hD)
  obtain ⟨W, ⟨m0, w0⟩, turn⟩ := q D hDn
  generalize hs3 : ({ s2 with heap := s2.heap.push { cls := .type "list", data := .seq ([] : List Value).toArray } } : Shared) = s3
  have I3 : Inv X pins σ (upd H2 D (.lst [])) s3 := by
    rw [← hs3]
    refine I2.laid (t' := s2.toks) (fun b o e => Heap.get?_push_of_some _ e) (Nat.le_of_eq hD) ⟨Nat.zero_le _, [], 0, .nil, ?_⟩
    rw [← hD]
    exact Heap.get?_push_size _ rfl
  have h3 : s3.heap = s2.heap.push { cls := .type "list", data := .seq ([] : List Value).toArray } := by rw [← hs3]
  have lit : it < s2.heap.objs.size := by
    obtain ⟨o, e, _⟩ := st2
    exact Heap.lt_size e
  have f3 : ∀ b ∈ [it], FpOk X pins (upd H2 D (.lst [])) b ∧ b < s3.heap.objs.size := fun b hb => by
    rw [List.mem_singleton.mp hb]
    refine ⟨⟨?_, f2.2⟩, by rw [h3, Heap.size_push]; exact Nat.lt_succ_of_lt lit⟩
    rw [upd_ne (by rw [← hD]; exact Nat.ne_of_lt lit)]
    exact f2.1
  have st3 : s3.heap.IsListIter it a 0 := st2.at fun o e => by rw [h3]; exact Heap.get?_push_of_some _ e
  have I4 := block_start I3 ok hN f3
  have pg := hg s3 (upd H2 D (.lst [])) s3.heap.objs.size (cellsFrom (s3.heap.objs.size + 1) scope.names (cloFrom X.env.cells scope.names [])) [it]
  have pt := ht s3 (upd H2 D (.lst [])) s3.heap.objs.size (cellsFrom (s3.heap.objs.size + 1) scope.names (cloFrom X.env.cells scope.names [])) [it]
  have pe := he s3 (upd H2 D (.lst [])) s3.heap.objs.size (cellsFrom (s3.heap.objs.size + 1) scope.names (cloFrom X.env.cells scope.names [])) [it]
  show codeAny _ _ (.compStart (.ListComp elt [⟨tg, iter, ifs, 0⟩] scope pos) 0 (.ref it) (.ref D) (compEnvC scope (cellsFrom (s3.heap.objs.size + 1) scope.names (cloFrom X.env.cells scope.names [])) s3.heap.objs.size X.env)) (compPost (model X.prog X.w) X.A X.xe use Qf (.ref D) s3.heap.objs.size) { s3 with heap := pushCells (s3.heap.push { cls := .type "dict", data := .dict #[] }) scope.names }
  have nfp : (upd H2 D (.lst [])) it = none := (f3 it List.mem_cons_self).1.1
  have P3 := I3.pin p (List.mem_append_left _ hp)
  generalize hce : compEnvC scope (cellsFrom (s3.heap.objs.size + 1) scope.names (cloFrom X.env.cells scope.names [])) s3.heap.objs.size X.env = ce at I4 pg pt pe ⊢
  have cL : ce.locals = s3.heap.objs.size := by subst hce; rfl
  generalize hH3 : upd H2 D (.lst []) = H3 at I3 I4 pg pt pe w0 nfp f3 P3
  have hq3 : SqL X.K H3 a xs := by
    rw [← hH3]
    rcases hq with hq | hq
    · rcases hq with hq | ⟨o, hq⟩
      · exact .inl (.inl (by rw [upd_ne (ne_of_none hq hDn)]; exact hq))
      · exact .inl (.inr ⟨o, by rw [upd_ne (ne_of_none hq hDn)]; exact hq⟩)
    · exact .inr hq
  generalize hs4 : ({ s3 with heap := pushCells (s3.heap.push { cls := .type "dict", data := .dict #[] }) scope.names } : Shared) = s4 at I4 ⊢
  have k34 : ∀ b o, s3.heap.get? b = some o → s4.heap.get? b = some o := fun b o e => by rw [← hs4]; exact pushCells_keeps _ _ _ _ (Heap.get?_push_of_some _ e)
  have st4 : s4.heap.IsListIter it a 0 := st3.at fun o e => k34 _ _ e
  -- the handled exception stays pinned within the block
  have I4p : Inv (X.blk s3 H3 scope ce [it]) [p] (wipe σ (own.map (·.2))) H3 s4 := I4.pins_of fun q hq => by
    obtain rfl : q = p := by simpa using hq
    refine ⟨k34 _ _ P3.1, P3.2.1, ?_, ?_, P3.2.2.2.2⟩
    · show q.1 ≠ ce.locals
      rw [cL]
      exact Nat.ne_of_lt (Heap.lt_size P3.1)
    · intro z
      rcases List.mem_cons.mp (I3.stkSub q.1 z) with y | y
      · exact P3.2.2.1 y
      · exact P3.2.2.2.1 y
  have stat : ∀ {σ' : L2.St} {H' : Hp} {s' : Shared}, Inv (X.blk s3 H3 scope ce [it]) [p] σ' H' s' → H' it = none → FpOk (X.blk s3 H3 scope ce [it]) [p] H' it := fun {σ' H' s'} I' hn =>
    ⟨hn, (I'.ok.exf it List.mem_cons_self).1, I'.ok.exfs it List.mem_cons_self, .inl List.mem_cons_self, fun x c e => (I'.ok.exf it List.mem_cons_self).2 x c e, fun q hq => by
      obtain rfl : q = p := by simpa using (show q ∈ ([] : List (Addr × Obj)) ++ [p] from hq)
      exact pit⟩
  have loop : codeAny (model X.prog X.w) X.A (.compLoop (.ListComp elt [⟨tg, iter, ifs, 0⟩] scope pos) 0 (.ref it) (.ref D) ce) (compPost (model X.prog X.w) X.A X.xe use Qf (.ref D) s3.heap.objs.size) s4 := by
    refine compLoop_any (fun n s' => ∃ i H', Inv (X.blk s3 H3 scope ce [it]) [p] (wipe σ (own.map (·.2))) H' s' ∧ s'.heap.IsListIter it a i ∧ H' it = none ∧ W i n H') ?_ m0 ⟨0, H3, I4p, st4, nfp, w0⟩
    rintro n s5 ⟨i, H5, I5, st5, n5, w5⟩
    have f5 := stat I5 n5
    rcases turn i n H5 w5 with ⟨⟨ys, hy, hyl⟩, qq⟩ | ⟨⟨ys, y, hy, hye⟩, Nx, hNx, step⟩
    · obtain ⟨its5, rv5, pl5, hz5⟩ := I5.list hy
      have hl5 := rv5.length
      have td : wpAny (model X.prog X.w) X.A (pyNext (.ref it)) (fun r s' => r = none ∧ Inv (X.blk s3 H3 scope ce [it]) [p] (wipe σ (own.map (·.2))) H5 s') (fun _ _ => False) s5 :=
        list_end_hot (hot_of (X := X.blk s3 H3 scope ce [it]) hot I5 (by simp)) (Ne.symm pit) st5 pl5.isList (by simp; omega) fun h' eb => ⟨rfl, I5.turned (t' := s5.toks) (fun b o hb e => eb b o hb e) f5.1 f5.2.1 f5.2.2.2.1 f5.2.2.2.2.1 f5.2.2.2.2.2⟩
      refine thnF td fun r s6 ⟨hr, I6⟩ => ?_
      subst hr
      have I7 : Inv X pins σ H5 s6 := I3.call' (ch := [it]) I6.os I6.base I6.hok I6.bare fun b hb => ⟨(f3 b hb).1.2.2.2.1, (f3 b hb).1.2.1, (f3 b hb).1.2.2.2.2.1, (f3 b hb).1.2.2.2.2.2⟩
      have nC : H5 s3.heap.objs.size = none := by
        have z : H5 ce.locals = none := I6.free
        rw [cL] at z
        exact z
      obtain ⟨m, hn, _⟩ := I6.loc
      have hn : s6.heap.Ns ce.locals m := hn
      rw [cL] at hn
      exact hRR D s3.heap.objs.size s6 m H5 I7 qq hn (I3.fpOk (Nat.le_refl _) nC)
    · obtain ⟨its5, rv5, pl5, hz5⟩ := I5.list hy
      obtain ⟨u, hu, ru⟩ := rv5.get hye
      have ti : wpAny (model X.prog X.w) X.A (pyNext (.ref it)) (fun r s' => r = some u ∧ s'.heap.IsListIter it a (i + 1) ∧ Inv (X.blk s3 H3 scope ce [it]) [p] (wipe σ (own.map (·.2))) H5 s') (fun _ _ => False) s5 :=
        wpAny_pyNext_list_item st5 pl5.isList (x := u) (by simpa using hu) fun h' st' sb => ⟨rfl, st', I5.turned (t' := s5.toks) (fun b o hb e => (sb.2 b hb).trans e) f5.1 f5.2.1 f5.2.2.2.1 f5.2.2.2.2.1 f5.2.2.2.2.2⟩
      refine thnF ti fun r s6 ⟨hr, st6, I6⟩ => ?_
      subst hr
      obtain ⟨oi, ei, ci, di⟩ := id st6
      refine hgo ei ci di ?_
      have f6 := stat I6 n5
      have I7 := I6.pinned (fp := [it]) (fun b hb => by rw [List.mem_singleton.mp hb]; exact f6) (fun b hb => by
        rw [List.mem_singleton.mp hb]
        exact ⟨oi, ei, fun v z => by rw [di] at z; cases z⟩)
      refine thnF (pg.run _ s6 _ H5 y u _ I7 (by simp) ru (step y H5 ⟨rfl, fun zs hz => by rw [I5.list_inj hz hy]; exact hye⟩)) fun _ s8 ⟨σ8, H8, I8, hw8, q8⟩ => ?_
      refine thnF (pt.run _ s8 σ8 H8 _ I8 q8) fun b s9 ⟨H9, I9, q9⟩ => ?_
      have fin : ∀ {s' : Shared} {H' : Hp}, Inv (X.blk s3 H3 scope ce [it]) ([p] ++ pinsAt [it] s6.heap) σ8 H' s' → Nx H' → ∃ m, m < n ∧ ∃ i H', Inv (X.blk s3 H3 scope ce [it]) [p] (wipe σ (own.map (·.2))) H' s' ∧ s'.heap.IsListIter it a i ∧ H' it = none ∧ W i m H' := fun {s' H'} I' nx => by
        obtain ⟨m', hm, w'⟩ := hNx H' nx
        have pin' : s'.heap.get? it = some oi ∧ H' it = none :=
          let z := I'.pin (it, oi) (List.mem_append_right _ (List.mem_append_right _ (mem_pinsAt List.mem_cons_self ei)))
          ⟨z.1, z.2.1⟩
        have hl : (wipe σ (own.map (·.2))).length = σ8.length := by rw [← hw8, wipe_length]
        refine ⟨m', hm, i + 1, H', (I'.unpinned (pins := [p])).weak hl (fun j v e => ?_), ⟨oi, pin'.1, ci, di⟩, pin'.2, w'⟩
        rw [← hw8] at e
        exact (wipe_some e).1
      cases b with
      | false =>
        simp only [Bool.false_eq_true, if_false] at q9 ⊢
        exact fin I9 q9
      | true =>
        simp only [if_true] at q9 ⊢
        refine thnF (pe.run _ s9 σ8 H9 _ I9 q9) fun z s10 ⟨yv, H10, I10, r10, acc, hD10, hz10, nx⟩ => ?_
        exact app_ok (X := X.blk s3 H3 scope ce [it]) I10 hD10 hz10 r10 fun s11 I11 => fin I11 nx
  exact codeAny_compStart_list loop (wpAny_pyIter_listiter st4 loop)
end
end Z
/-! H, part C: isinstance of a caught error, whatever it bears -/
namespace Z
open PySem PySem.Spec PySem.Calls PySem.W PyProof.Rows
section
variable {prog : Program} {w : World} {A : Around} {E : Value → Shared → Prop} {s : Shared} {K : Frag} {x D : Addr} {ox : Obj} {od : Option Obj}
theorem find_class (C : L2.ExcC K D) (od : Option Obj) : findObj K D od "__class__" = some (.bind (.builtin "getset_descriptor.__get__") (.builtin "object.__class__")) := by
  have hc : (clsIn K D).isSome = true := by
    obtain ⟨cd, hc, _⟩ := any_some C.hd
    rw [hc]; rfl
  cases od with
  | none => exact findObj_dataN hc C.ha C.hn C.ht
  | some o => exact findObj_data hc C.ha C.hn C.ht
theorem class_of (C : L2.ExcC K D) {Q : Option Value → Shared → Prop} (X : K.In s.heap) (I : InstAt s.heap x ox D od) (h : Q (some (.ref D)) { s with toks := s.toks + 1 }) : wpAny (model prog w) A (getAttr? (.ref x) "__class__") Q E s := by
  have hf := find_class C od
  obtain ⟨hp, g, dr, t, os⟩ := s
  have ty := I.type (M := model prog w)
  have la := looks_findIn (M := model prog w) X C.hg
  have lb := looks_findIn (M := model prog w) X C.hk
  have lf := looks_find (M := model prog w) X I hf
  have exc : Looks (model prog w) hp (isInstance (.ref x) (.type "BaseException")) true := ty.andThen (looks_subIn X C.hs)
  have other : (Value.builtin "BaseException.__getattribute__" == Value.builtin "object.__getattribute__") = false := by decide +kernel
  have own : (onTheHeap (Value.ref D) && Value.builtin "BaseException.__getattribute__" == Value.builtin "object.__getattribute__") = false := by rw [other]; rfl
  unfold getAttr? getAttrBy? getAttrBy
  refine wpAny_bind (wpAny_mkText (wpAny_bind (wpAny_attempt (wpAny_holding (wpAny_bind (ty.at (wpAny_bind (la.at ?_))))))))
  show wpAny _ _ (if (_ && _) = true then _ else _) _ _ _
  rw [own, if_neg Bool.false_ne_true]
  unfold getAttrByItsOwn hookBefore
  refine wpAny_bind ?_
  rw [if_pos (show onTheHeap (Value.ref D) = true from rfl)]
  refine lb.at ?_
  refine wpAny_bind (wpAny_attempt (wpAny_holding ?_))
  unfold callGetattribute
  rw [show (false && onTheHeap (Value.builtin "BaseException.__getattribute__")) = false from rfl, if_neg Bool.false_ne_true]
  unfold boundAndCalled
  rw [PySem.F.excAttr_ValueError.ga.bind (.ref x)]
  refine wpAny_bind (wpAny_pure ?_)
  show wpAny _ _ (call (.builtin "BaseException.__getattribute__") [.ref x, .str "__class__" t]) _ _ _
  refine wpAny_call (codeAny_call_builtin PySem.F.excAttr_ValueError.ga.plain PySem.F.entry_bexc_ga ?_)
  refine @check_slot (model prog w) _ _ ⟨hp, g, dr, t + 1, os⟩ "BaseException.__getattribute__" "BaseException" "__getattribute__" (.ref x) [.str "__class__" t] [] _ (by decide +kernel) (by decide +kernel) exc (PySem.F.args_bexc_ga _ _) ?_
  unfold Builtin.«object.__getattribute__»
  refine wpAny_bind (wpAny_of_eq (a := ((Value.ref x : Value), [Value.str "__class__" t])) (by first | rfl | (simp only [slotArgs]; rfl)) ?_)
  refine wpAny_bind (wpAny_pure (wpAny_bind (ty.at (wpAny_bind (lf.at ?_)))))
  show wpAny _ _ (holding [Value.builtin "object.__class__"] (call (.builtin "getset_descriptor.__get__") [.builtin "object.__class__", .ref x, .ref D]) >>= ret) _ _ _
  refine wpAny_bind (wpAny_holding (wpAny_call (class_get (s := ⟨hp, g, dr, t + 1, os⟩) (ox := ox) (od := od) X I C.hm ?_)))
  refine wpAny_pure ?_
  show wpAny _ _ (handedOut (.ref D)) _ _ _
  rw [handedOut_of (v := .ref D) rfl]
  first
    | exact wpAny_pure (wpAny_pure h)
    | exact wpAny_pure h
    | exact wpAny_pure (wpAny_bind (wpAny_pure (wpAny_pure h)))
theorem kit_exc (C : L2.ExcC K D) : KitX K (.ref x) (.ref D) (fun h => ∃ ox od, InstAt h x ox D od) where
  ty := fun _ _ _ ⟨_, _, I⟩ => I.type
  it := fun _ _ X _ => by
    obtain ⟨cd, hc, _⟩ := any_some C.hd
    unfold clsIn at hc
    split at hc
    · rename_i ho
      intro A' Q' E' s' k q
      unfold isType loadHead
      exact wpAny_bind (wpAny_loadPart (k _ _ (X _ _ ho)) (wpAny_pure q))
    · cases hc
  ne := fun h tp dd its n sl X htp => by
    obtain ⟨cd, hc, _⟩ := any_some C.hd
    refine Bool.eq_false_iff.mpr fun q => ?_
    have e : D = tp := Value.ref.inj (beq_iff_eq.mp q)
    subst e
    unfold clsIn at hc
    split at hc
    · rename_i ho
      have z := (X _ _ ho).symm.trans htp
      cases z
    · cases hc
  ca := fun X ⟨_, _, I⟩ k => class_of C X I k
end
end Z
namespace Z
open PySem PySem.Spec PyProof.Rows L2
/-- what a pinned error bears stands in the heap -/
def Bears (H : Hp) (d : Option Addr) : Prop := ∀ dd, d = some dd → ∃ fs, H dd = some (.xd fs)
theorem exc_inst {X : Cx} {pins : List (Addr × Obj)} {σ : L2.St} {H : Hp} {s : Shared} {a D : Addr} {oe : Obj} {d : Option Addr} (I : Inv X pins σ H s) (m : (a, oe) ∈ X.pn ++ pins) (hz : Zc (.ref D) d oe) (hf : ∃ vs, oe.data = .fields vs) (b : Bears H d) :
    ∃ ox od, PySem.W.InstAt s.heap a ox D od := by
  obtain ⟨hget, _⟩ := I.pin (a, oe) m
  obtain ⟨vs, hv⟩ := hf
  obtain ⟨h1, h2⟩ := hz
  cases d with
  | none => exact ⟨oe, none, hget, h1, by unfold PySem.W.notCls; rw [hv], by rw [h2]; trivial⟩
  | some dd =>
    obtain ⟨fs, e⟩ := b dd rfl
    obtain ⟨mA, ⟨o, es, ep, ho, _⟩, _⟩ := I.hok _ _ e
    exact ⟨oe, some o, hget, h1, by unfold PySem.W.notCls; rw [hv], by rw [h2]; exact ho⟩
/-- isinstance(e, c), e a pinned error of the class D -/
def rIsP (K : PySem.W.Frag) (D a : Addr) (d : Option Addr) : List V → Hp → VK → Prop := fun xs H Q => ∃ (c : V) (cv : Value) (b : Bool), xs = [.ref a, c] ∧ (∀ u, RelV c u → u = cv) ∧ PySem.W.kitOne K (.ref D) cv = some b ∧ Bears H d ∧ Q (.bl b) H
theorem z_isP {X : Cx} {a D : Addr} {oe : Obj} {d : Option Addr} (C : ExcC X.K D) (m : (a, oe) ∈ X.pn) (hz : Zc (.ref D) d oe) (hf : ∃ vs, oe.data = .fields vs) : CallR X (.builtin "isinstance") (rIsP X.K D a d) := by
  intro pins s σ H xs us Q I r h
  obtain ⟨c, cv, b, rfl, hcv, e, hb, q⟩ := h
  cases r with
  | cons rx rr =>
    cases rr with
    | cons rt rr =>
      cases rr
      cases rx
      have ec := hcv _ rt
      subst ec
      exact PySem.W.kia_one (kit_exc C) I.kIn (exc_inst I (List.mem_append_left _ m) hz hf hb) e (fun z => nomatch z) fun tk => ⟨.bl b, H, I.kept (t' := tk) fun _ _ z => z, rfl, q⟩
end Z
/-! H, part D: defs called while an exception is handled -/
namespace Z
open PySem PySem.Spec PyProof.Rows L2 L2H HotX
/-- a def's promise where p is handled -/
structure FnW (P : Program) (w : World) (K : PySem.W.Frag) (mg : Str → Option Value) (base : Heap) (k : Nat) (f : Addr) (fd : FuncData) (ps : List Str) (sp : Addr × Obj → Sp) : Prop where
  len : ∀ p vs H Q E, sp p vs H Q E → vs.length = ps.length
  run : ∀ (A : Around) (outer : List Env) (s : Shared) (H : Hp) (args : Args) (us : List Value) (vs : List V) (Q : VK) (E : XK) (p : Addr × Obj), RoomH k A → Hot1 A p → PinOk outer H s p → Env0 P w K mg base A outer s H → BindsTo s fd args (ps.zip us) → Vals vs us →
    sp p vs H Q E → codeAny (model P w) A (.call (.ref f) args) (CR (L2N.CX P w) outer P w H s Q E) s
section
variable {P : Program} {w : World} {K : PySem.W.Frag} {mg : Str → Option Value} {base : Heap}
/-- the body of such a def -/
abbrev cxW (P : Program) (w : World) (K : PySem.W.Frag) (mg : Str → Option Value) (base : Heap) (N : List Str) (qual : Str) (sc : Scope) (f : Addr) (cd : Value) (A : Around) (outer : List Env) (s : Shared) (H : Hp) (E : XK) (p : Addr × Obj) : Cx :=
  cxH (L2N.CX P w) P w K mg base N qual sc f cd A outer s H E p
theorem w_fn {x qual : Str} {args : Arguments} {body : List Stmt} {sc : Scope} {dV kV : Value} {f : Addr} {fd : FuncData} {N ps : List Str} {k : Nat} {sp : Addr × Obj → Sp} (T : Txt K x qual args body sc dV kV f fd) (S : FnScope N ps sc)
    (len : ∀ p vs H Q E, sp p vs H Q E → vs.length = ps.length)
    (hb : ∀ (cd : Value) (A : Around) (outer : List Env) (s : Shared) (H : Hp) (vs : List V) (Q : VK) (E : XK) (p : Addr × Obj), RoomH k (A.deeper (envOfC qual sc s.heap.objs.size f cd)) → Hot1 A p → sp p vs H Q E →
      ∃ (t : TS) (σ : L2.St), start N vs = σ ∧ PSs (cxW P w K mg base N qual sc f cd A outer s H E p) body t ∧ t { nx := fun _ H' => Q .non H', rt := Q } σ H) :
    FnW P w K mg base (k + 1) f fd ps sp := by
  obtain ⟨oc, od, doc, pm, an, cd, ct, osl, rfl, lk, hcd⟩ := T.ex
  refine ⟨len, ?_⟩
  intro A outer s H a us vs Q E p room hot pin e0 binds rel want
  obtain ⟨t, σ, eσ, derived, goal⟩ := hb cd A outer s H vs Q E p (room.deeper _) hot want
  subst eσ
  have inHeap : K.In s.heap := e0.mod.kin.keeps fun b o q => (e0.bs b o q).1
  have noLim : s.heap.NoLimit := e0.mod.nolimit.keeps fun b o q => (e0.bs b o q).1
  refine codeAny_call_function room.depth (inHeap _ _ lk) rfl S.co S.gen rfl (PySem.W.codeRec_of inHeap hcd) (binds _ _ _ _ ?_)
  have kinds : ∀ y ∈ ps.zip us, sc.names.lookup y.1 = some .local ∨
      (sc.names.lookup y.1 = some .cell ∧ ((cellsFrom (s.heap.objs.size + 1) sc.names []).lookup y.1).isSome = true) := by
    rintro ⟨n, v⟩ hy
    cases S.par n (List.of_mem_zip hy).1 with
    | inl q => exact .inl q
    | inr q => exact .inr ⟨q, PySem.W.cellsFrom_some _ _ _ (.inl q)⟩
  refine wpAny_newFunctionEnv_cells S.kind kinds fun env he s1 x => ?_
  subst he
  refine ⟨noLim.keeps x.toInCall.keep, codeAny_func ?_⟩
  have I0 := inv_startH (CX := L2N.CX P w) (P := P) (w := w) (K := K) (mg := mg) (base := base) (f := f) (cd := cd) (E := E) S pin e0 (len _ _ _ _ _ want) rel x
  refine wpAny_mono (derived.run [] s1 _ H _ I0 goal) ?_ fun e s' hs => hs
  intro fl s' hs
  cases fl with
  | next =>
    obtain ⟨σ2, H2, J, q⟩ := hs
    exact ⟨.non, H2, J.os, J.bare, J.base, J.hok, rfl, q⟩
  | ret u =>
    obtain ⟨v, σ2, H2, J, rv, q⟩ := hs
    exact ⟨v, H2, J.os, J.bare, J.base, J.hok, rv, q⟩
  | brk => exact hs.elim fun _ z => z.elim fun _ z => z.2.elim
  | cont => exact hs.elim fun _ z => z.elim fun _ z => z.2.elim
/-- such a def under a global name -/
structure DefW (P : Program) (w : World) (K : PySem.W.Frag) (mg : Str → Option Value) (base : Heap) (k : Nat) (x : Str) (sp : Addr × Obj → Sp) : Prop where
  ex : ∃ (f : Addr) (fd : FuncData) (ps : List Str), FnW P w K mg base k f fd ps sp ∧ mg x = some (.ref f) ∧ PySem.W.keepIn K (.ref f) = true ∧ Binds K fd ps []
end
section
variable {X : Cx} {k : Nat} {sp : Addr × Obj → Sp} {x : Str} {p1 pos : Pos} {e : Expr} {es : List Expr} {t : TA} {p : Addr × Obj}
/-- f(..) while p is handled, nothing raised: sq, what suffices -/
def tCW (sq : List V → Hp → VK → Prop) (t : TA) : TE := fun σ H Q => t σ H fun vs H1 => sq vs H1 Q
theorem pe_fW {sq : List V → Hp → VK → Prop} (D : DefW X.prog X.w X.K X.mg X.base k x sp) (hc : ∀ vs H Q, sq vs H Q → sp p vs H Q (fun _ _ _ => False)) (room : RoomH k X.A) (hot : Hot1 X.A p) (hp : p ∈ X.pn) (hg : Gl X x) (ha : PA X (e :: es) t) (hdb : (x == ("__debug__" : Str)) = false := by decide)
    (he : starEach (e :: es) X.env = (false, eval e X.env) :: starEach es X.env := by rfl) (hpl : (backTo pos (starEach es X.env)).any (·.1) = false := by rfl) :
    PE X (.Call (.Name x p1) (e :: es) [] pos) (tCW sq t) := by
  obtain ⟨f, fd, ps, F, hm, hk, hb⟩ := D.ex
  refine ⟨fun pins s σ H Q I h => ?_⟩
  refine wpAny_Call_Name_kw (ld_glob I hg hm ?_ hdb)
  refine PySem.W.callWith_K (h₀ := X.base) I.ok.mod.kin hk (thn (ha.run pos pins s σ H _ I h) fun us s1 ⟨vs, H1, I1, r, q0⟩ => ⟨I1.kIn, ?_⟩) he hpl
  have q := hc _ _ _ q0
  have hl : us.length = ps.length := by rw [← r.length]; exact F.len _ _ _ _ _ q
  have b := hb s1 us I1.kIn (by rw [List.append_nil]; exact hl)
  rw [List.append_nil] at b
  have P1 := I1.pin p (List.mem_append_left _ hp)
  have pin : PinOk X.stack H1 s1 p := ⟨P1.1, P1.2.1, fun hm => (List.mem_cons.mp (I1.stkSub p.1 hm)).elim P1.2.2.1 P1.2.2.2.1, P1.2.2.2.2⟩
  refine wpAny_call (codeAny_mono (F.run X.A X.stack s1 H1 ⟨us, []⟩ us vs Q (fun _ _ _ => False) p room hot pin I1.env0 b r q) fun r s' hq => ?_)
  match r, hq with
  | .error _, hq =>
    obtain ⟨_, _, _, _, _, _, _, _, _, _, _, _, no⟩ := hq
    exact no.elim
  | .ok (.ret u), hq => exact I1.after hq
  | .ok .next, hq => exact False.elim hq
  | .ok .brk, hq => exact False.elim hq
  | .ok .cont, hq => exact False.elim hq
end
section
variable {X : Cx} {p : Addr × Obj}
/-- name = [..] over a list, while p is handled -/
theorem ps_setLcW {i : Nat} {y : Str} {py : Pos} {elt tg iter : Expr} {ifs : List Expr} {scope : Scope} {own : List (Str × Nat)} {pos spos : Pos} {tl : TE} {g : TG} {tt : TT} {te : TE} (hot : Hot1 X.A p) (hp : p ∈ X.pn) (hN : X.N.Nodup) (hy : X.N[i]? = some y) (hyl : X.env.scope.names.lookup y = some .local)
    (hsw : swapsWith (.ListComp elt [⟨tg, iter, ifs, 0⟩] scope pos) (some (.Name y py)) spos.line X.env = pure true) (hi : PE X iter tl) (ok : BlkOk X.N X.env.scope scope own)
    (hg : ∀ (s : Shared) (H : Hp) (C : Addr) (cl : List (Str × Addr)) (fp : List Addr), PGP (X.blk s H scope (compEnvC scope cl C X.env) fp) p tg g) (ht : ∀ (s : Shared) (H : Hp) (C : Addr) (cl : List (Str × Addr)) (fp : List Addr), PTs (X.blk s H scope (compEnvC scope cl C X.env) fp) ifs tt)
    (he : ∀ (s : Shared) (H : Hp) (C : Addr) (cl : List (Str × Addr)) (fp : List Addr), PE (X.blk s H scope (compEnvC scope cl C X.env) fp) elt te)
    (hgo : ∀ {M : Model} {A : Around} {E : Value → Shared → Prop} {s : Shared} {it : Addr} {u : Value} {o : Obj} {vs : Array Value} {R : Unit → Shared → Prop}, s.heap.get? it = some o → o.cls = .type "list_iterator" → o.data = .fields vs → R () s → wpAny M A (letOwnedTupleGo tg (.ref it) u) R E s)
    (hs : ∀ x, foldedSetIterable iter X.env x = pure x := by intro _; rfl) :
    PS X (.Assign [.Name y py] (.ListComp elt [⟨tg, iter, ifs, 0⟩] scope pos) spos) (tAsg (tLc (iList X.K tl) g tt te (own.map (·.2))) (gName i)) := by
  refine ⟨fun pins s σ H D I h => ?_⟩
  rw [exec_Assign_Name_used _ _ _ _ hsw]
  refine wpAny_bind (wpAny_standAt (wpAny_bind ?_))
  show wpAny _ X.A (do let _ ← comprehension _ scope X.env (firstIterPos [⟨tg, iter, ifs, 0⟩] pos) (newList []) false (eval iter X.env) (some (assign (.Name y py) X.env))) _ _ s
  have w : tLc (iList X.K tl) g tt te (own.map (·.2)) σ H (fun x H1 => gName i x σ H1 D.nx) := h
  refine wpAny_bind (thn (lc_hot (Qf := fun _ s' => SP X pins D .next s') hot hp hN I hi ok hg ht he hs w hgo fun L C s' m H' J q hn fr => ?_) fun _ s' z => wpAny_pure (wpAny_pure z))
  show wpAny _ _ (assign (.Name y py) X.env (.ref L)) _ _ _
  refine wpAny_assign_Name (store_ok2 (v := V.ref L) J hN hy (.inl hyl) rfl (fun s2 J2 ⟨a, sb, ha⟩ => ?_) (.inr hyl))
  obtain ⟨f0, f1, f2, f3, f4, f5⟩ := fr
  have far : C ≠ a := by
    rcases ha with z | z
    · rw [z]; exact f1
    · exact fun e => f4 y a z e.symm
  exact ⟨m, hn.sameBut sb far, fun h3 sb3 => ⟨_, H', J2.turned (t' := s2.toks) (fun b o hb e => (sb3.2 b hb).trans e) f0 f1 f3 f4 f5, q⟩⟩
/-- a tuple's names are stored: nothing goes ahead of it for a list's iterator -/
theorem go_list {M : Model} {A : Around} {E : Value → Shared → Prop} {s : Shared} {tg : Expr} {it : Addr} {u : Value} {o : Obj} {vs : Array Value} {R : Unit → Shared → Prop} (h0 : s.heap.get? it = some o) (h1 : o.cls = .type "list_iterator") (h2 : o.data = .fields vs) (q : R () s) : wpAny M A (letOwnedTupleGo tg (.ref it) u) R E s :=
  go_of h0 h1 h2 (by decide) q
end
end Z
/-! H, part E: except (A, B, ..) as e -/
namespace Z
open PySem PySem.Spec PySem.Calls PySem.W PyProof.Rows
def chkAll (l : List Value) : Sem PUnit := forIn l PUnit.unit fun c _ => do
  if !(← isExcClass c) then
    rule "try.except-non-exception-class"
    raiseError "TypeError" "catching classes that do not inherit from BaseException is not allowed"
    pure (ForInStep.yield PUnit.unit)
  else pure (ForInStep.yield PUnit.unit)
def anySub (te : Value) (l : List Value) : Sem Bool := do
  for c in l do
    if ← isSubtype te c then return true
  return false
theorem exc_eq (e spec : Value) : excMatches e spec = (do
    let l ← if ← isInstance spec (.type "tuple") then pure ((← seqItems? spec).getD #[]).toList else pure [spec]
    chkAll l
    let te ← typeOf e
    anySub te l) := by
  unfold excMatches chkAll anySub
  rfl
section
variable {M : Model} {K : Frag} {h : Heap} {cls : Value}
theorem chk_all (X : K.In h) : ∀ {l : List Value} {b : Bool}, exmAny K cls l = some b → Looks M h (chkAll l) PUnit.unit
  | [], _, _ => fun A Q E s k q => by
    unfold chkAll
    simp only [List.forIn_nil]
    exact wpAny_pure q
  | c :: l, b, e => fun A Q E s k q => by
    obtain ⟨b1, d1, e1, e2, _⟩ := exmAny_cons e
    have L1 := (exm_cls (M := M) X e1).1
    have ih := chk_all X e2
    unfold chkAll at ih ⊢
    simp only [List.forIn_cons]
    refine wpAny_bind (wpAny_bind ((L1.keeps k).here ?_))
    simp only [Bool.not_true, Bool.false_eq_true, if_false]
    refine wpAny_pure ?_
    exact ih A Q E s k q
theorem any_loop (X : K.In h) {A : Around} {Q : Bool → Shared → Prop} {E : Value → Shared → Prop} {s : Shared} (k : ∀ b o, h.get? b = some o → s.heap.get? b = some o) : ∀ {l : List Value} {b : Bool}, exmAny K cls l = some b → Q b s →
    wpAny M A (forIn l ((none, ()) : Option Bool × Unit) fun c _ => do
      let y ← isSubtype cls c
      if y = true then pure (ForInStep.done (some true, ())) else pure (ForInStep.yield (none, ())))
      (fun r s' => wpAny M A (match r.fst with | some y => pure y | none => pure false) Q E s') E s
  | [], b, e, q => by
    have : b = false := by cases e; rfl
    subst this
    simp only [List.forIn_nil]
    exact wpAny_pure (wpAny_pure q)
  | c :: l, b, e, q => by
    obtain ⟨b1, d1, e1, e2, eb⟩ := exmAny_cons e
    have L1 := (exm_cls (M := M) X e1).2
    simp only [List.forIn_cons]
    refine wpAny_bind (wpAny_bind ((L1.keeps k).here ?_))
    cases b1 with
    | true =>
      subst eb
      simp only [if_true]
      exact wpAny_pure (wpAny_pure (wpAny_pure q))
    | false =>
      have eb : b = d1 := by rw [eb]; rfl
      subst eb
      simp only [Bool.false_eq_true, if_false]
      exact wpAny_pure (any_loop X k e2 q)
theorem any_sub (X : K.In h) {l : List Value} {b : Bool} (e : exmAny K cls l = some b) : Looks M h (anySub cls l) b := fun A Q E s k q => by
  unfold anySub
  exact wpAny_bind (wpAny_mono (any_loop X k e q) (fun r s' z => by obtain ⟨o, u⟩ := r; cases o <;> exact z) fun _ _ z => z)
/-- the test of a clause that names a tuple of classes -/
theorem exm_tup {l : List Value} {tp e : Addr} {b : Bool} (X : K.In h) (LT : Looks M h (typeOf (.ref e)) cls) (hp : h.get? tp = some { cls := .type "tuple", data := .seq l.toArray }) (hx : exmAny K cls l = some b) : Looks M h (excMatches (.ref e) (.ref tp)) b := by
  intro A Q E s k q
  have L0 : Looks M h (isInstance (.ref tp) (.type "tuple")) true := ((Looks.ld hp).andThen .now).andThen (Looks.of_pure isSubtype_tuple_tuple)
  rw [exc_eq]
  refine wpAny_bind ((L0.keeps k).here ?_)
  simp only [if_true]
  first
    | refine wpAny_bind (wpAny_seqItems (k _ _ hp) rfl ?_)
    | refine wpAny_bind (wpAny_bind (wpAny_seqItems (k _ _ hp) rfl (wpAny_pure ?_)))
  simp only [Option.getD_some]
  refine wpAny_bind (wpAny_pure ?_)
  refine wpAny_bind (((chk_all X hx).keeps k).here ?_)
  refine wpAny_bind ((LT.keeps k).here ?_)
  exact ((any_sub X hx).keeps k).here q
end
end Z
/-! H, part F: try: .. except (A, B) as e: .. except C as e: .. -/
namespace Z
open PySem PySem.Spec PyProof.Rows L2 L2H HotX
/-- a clause's classes, asked of the exception at a -/
def Tst (X : Cx) (t : Expr) (cs : List Value) : Prop := ∀ (a : Addr) (oe : Obj) (pn : List (Addr × Obj)) (σ : L2.St) (H : Hp) (s : Shared) (E : Value → Shared → Prop) (Q : Value → Shared → Prop), Inv (X.suite a ((a, oe) :: pn)) [] σ H s →
  (∀ c h', (∀ b o, s.heap.get? b = some o → h'.get? b = some o) → (∀ (M : Model) (K : PySem.W.Frag) (cls : Value) (b : Bool), K.In h' → PySem.W.Looks M h' (typeOf (.ref a)) cls → PySem.W.exmAny K cls cs = some b → PySem.W.Looks M h' (excMatches (.ref a) c) b) → Q c { s with heap := h' }) →
  wpAny (model X.prog X.w) (X.A.mark (some (.ref a))) (eval t X.env) Q E s
section
variable {X : Cx}
theorem name_in {x : Str} {c : Value} {np : Pos} {a : Addr} {oe : Obj} {pn : List (Addr × Obj)} {σ : L2.St} {H : Hp} {s : Shared} {Q : Value → Shared → Prop} {E : Value → Shared → Prop} (hc : Names X x c) (I : Inv (X.suite a ((a, oe) :: pn)) [] σ H s) (q : Q c s) :
    wpAny (model X.prog X.w) (X.A.mark (some (.ref a))) (eval (.Name x np) X.env) Q E s := by
  obtain ⟨hg, hdbg, hm | ⟨hm, hv, hnn⟩⟩ := hc
  · exact ld_glob (X := X.suite a ((a, oe) :: pn)) I hg hm q hdbg
  · exact ld_blt (X := X.suite a ((a, oe) :: pn)) I hg hm hv q hnn hdbg
theorem tst_name {x : Str} {c : Value} {np : Pos} (hc : Names X x c) : Tst X (.Name x np) [c] := fun a oe pn σ H s E Q I k =>
  name_in hc I (k c s.heap (fun _ _ z => z) fun M K cls b kin lt e => by
    obtain ⟨b1, d1, e1, e2, eb⟩ := PySem.W.exmAny_cons e
    have : d1 = false := by cases e2; rfl
    subst this
    rw [Bool.or_false] at eb
    subst eb
    exact PySem.W.exm_one kin lt e1)
inductive NamesAll (X : Cx) : List Expr → List Value → Prop
  | nil : NamesAll X [] []
  | cons {x : Str} {c : Value} {np : Pos} {es : List Expr} {cs : List Value} (hc : Names X x c) (r : NamesAll X es cs) : NamesAll X (.Name x np :: es) (c :: cs)
theorem names_items {es : List Expr} {cs : List Value} (n : NamesAll X es cs) {pos : Pos} {a : Addr} {oe : Obj} {pn : List (Addr × Obj)} {σ : L2.St} {H : Hp} {s : Shared} {E : Value → Shared → Prop} (I : Inv (X.suite a ((a, oe) :: pn)) [] σ H s) :
    ∀ {Q : List Value → Shared → Prop}, Q cs s → wpAny (model X.prog X.w) (X.A.mark (some (.ref a))) (spliced (backTo pos (starEach es X.env))) Q E s := by
  induction n with
  | nil => exact fun {Q} q => wpAny_items_nil q
  | cons hc r ih => exact fun {Q} q => wpAny_items_cons (name_in hc I (ih q))
theorem tst_tup {es : List Expr} {cs : List Value} {k : Nat} {pos : Pos} (n : NamesAll X es cs) (hl : cs.length ≤ 1000 := by decide) : Tst X (.Tuple es k pos) cs := fun a oe pn σ H s E Q I kk => by
  refine wpAny_Tuple (names_items n I ⟨by rw [sizeLine_eq]; omega, ?_⟩)
  exact kk _ _ (fun b o e => Heap.get?_push_of_some _ e) fun M K cls b kin lt e => exm_tup kin lt (Heap.get?_push_size _ rfl) e
end
/-- what the clauses wish of an exception of the body -/
def wTup (K : PySem.W.Frag) (Wout : WX) (D : Ends) : List (List Value × Nat × (Addr → Value → Option Addr → TS)) → WX
  | [] => Wout
  | (cs, i, ts) :: r => fun cls d σ H => ∃ b, PySem.W.exmAny K cls cs = some b ∧
      (b = true → ∀ a, H a = none → ts a cls d { nx := fun σ' H' => D.nx (σ'.set i none) H', rt := D.rt, bk := fun σ' H' => D.bk (σ'.set i none) H', ct := fun σ' H' => D.ct (σ'.set i none) H' } (σ.set i (some (.ref a))) H) ∧
      (b = false → wTup K Wout D r cls d σ H)
inductive HdsT (X : Cx) : List ExceptHandler → List (List Value × Nat × (Addr → Value → Option Addr → TS)) → Prop
  | nil : HdsT X [] []
  | cons {t : Expr} {n : Str} {i : Nat} {cs : List Value} {ts : Addr → Value → Option Addr → TS} {b₀ : Stmt} {suite : List Stmt} {pos' : Pos} {hds : List ExceptHandler} {l : List (List Value × Nat × (Addr → Value → Option Addr → TS))} (ht : Tst X t cs) (hi : X.N[i]? = some n) (hln : X.env.kindOf n = some .local)
      (hsu : ∀ (a : Addr) (oe : Obj) (cls : Value) (d : Option Addr) (pn : List (Addr × Obj)), L2N.Zn cls d oe → (∃ vs, oe.data = .fields vs) → PSs (X.suite a ((a, oe) :: pn)) (b₀ :: suite) (ts a cls d)) (r : HdsT X hds l) :
      HdsT X (.ExceptHandler (some t) (some n) (b₀ :: suite) pos' :: hds) ((cs, i, ts) :: l)
theorem fly_keep {B : Heap} {l : List Env} {e : Addr} {Z : Obj → Prop} {h h' : Heap} (f : HandSPX.FlyingZ B l e Z h) (k : ∀ b o, h.get? b = some o → h'.get? b = some o) : HandSPX.FlyingZ B l e Z h' := by
  obtain ⟨k1, k2, k3, k4⟩ := f
  refine ⟨fun b o q => k b o (k1 b o q), k2, k3.of_keeps fun b o q _ => ⟨o, k b o q, rfl⟩, ?_⟩
  obtain ⟨oe, vs, T, oT, ts, he, hz, hd, h1, h2, h3, hT, r⟩ := k4
  exact ⟨oe, vs, T, oT, ts, k _ _ he, hz, hd, h1, h2, h3, k _ _ hT, r⟩
section
variable {X : Cx} {body : List Stmt} {h₀ : ExceptHandler} {hds : List ExceptHandler} {l : List (List Value × Nat × (Addr → Value → Option Addr → TS))} {pos : Pos} {tb : WX → TS} {Wout : WX}
theorem ps_tryT (hs : X.stack = X.env :: X.outer) (hf : X.env.frame = some X.env.locals) (hN : X.N.Nodup) (tk : L2N.Takes X Wout)
    (hb : ∀ (W : WX) (pn : List (Addr × Obj)) (xe : Value → Shared → Prop), L2N.Takes (X.tr pn xe) W → PassesOwn (model X.prog X.w) X.A X.env xe → PSs (X.tr pn xe) body (tb W))
    (hh : HdsT X (h₀ :: hds) l) : PS X (.Try body (h₀ :: hds) [] [] pos) (fun D σ H => tb (wTup X.K Wout D l) D σ H) := by
  refine ⟨fun pins s σ H D I want => ?_⟩
  have ok := I.ok
  have hfr : X.A.frames = some (X.env :: X.outer) := by rw [ok.frames, hs]
  refine wpAny_Try_except ?_
  refine wpAny_mono ((hb (wTup X.K Wout D l) (X.pn ++ pins) (fun e s₁ => wpAny (model X.prog X.w) X.A (noteFrame e X.env) (fun _ s₂ => wpAny (model X.prog X.w) X.A (setFlight e none) (fun _ s₃ =>
    wpAny (model X.prog X.w) X.A (handleBy e X.env (h₀ :: hds)) (SP X pins D) X.xe s₃) X.xe s₂) X.xe s₁) (fun u s' xx => ?_) PassesOwn.looking).run [] s σ H D (I.toTry _) want) (fun f s1 hsp => ?_) (fun e s1 he => he)
  · obtain ⟨a, B, sI, pins', σ', H', cls, d, rfl, J', nb, up, sky, na, os, ag, w⟩ := xx
    have J : Inv X pins σ' H' sI := J'.ofTry ok
    have sky2 : Sky B (X.env :: X.outer) a (L2N.Zn cls d) X.env.locals s'.heap := by rw [← hs]; exact sky
    show wpAny (model X.prog X.w) X.A (noteFrame (.ref a) X.env) _ _ _
    refine L2N.Sky.land L2N.Zn.steady hfr hf sky2 fun h3 fl3 up3 => ?_
    -- where it lies, whatever was added since
    have away : ∀ {h : Heap}, HandSPX.FlyingZ B (X.env :: X.outer) a (L2N.Zn cls d) h → a ≠ X.env.locals ∧ a ∉ X.fs := fun {h} fl => by
      obtain ⟨oe, vs, he, hz, hd⟩ := fl.there
      have nfr : a ∉ frs (X.env :: X.outer) := fun hm => by
        obtain ⟨_, o, e, hnf⟩ := fl.2.2.1.mem hm
        rw [he] at e
        cases e
        exact hnf _ hd
      refine ⟨fun z => nfr (List.mem_filterMap.mpr ⟨X.env, List.mem_cons_self, by rw [hf, z]⟩), fun hm => ?_⟩
      obtain ⟨e, he2, q⟩ := List.mem_filterMap.mp hm
      exact nfr (List.mem_filterMap.mpr ⟨e, List.mem_cons_of_mem _ he2, q⟩)
    have go : ∀ {hds' : List ExceptHandler} {l' : List (List Value × Nat × (Addr → Value → Option Addr → TS))}, HdsT X hds' l' → ∀ h : Heap, HandSPX.FlyingZ B (X.env :: X.outer) a (L2N.Zn cls d) h → s'.heap.UpToSlots h → wTup X.K Wout D l' cls d σ' H' →
        wpAny (model X.prog X.w) X.A (handleBy (.ref a) X.env hds') (SP X pins D) X.xe { s' with heap := h } := by
      intro hds' l' hk
      induction hk with
      | nil =>
        intro h fl uph w
        refine wpAny_handleBy_nil ?_
        obtain ⟨k1, k2, k3, oe, vs, T, oT, ts', he, hz, hd, h1, hr⟩ := id fl
        unfold PySem.passOn
        refine wpAny_bind (wpAny_field he hd h1 ?_)
        rw [if_neg (show ¬ ((Value.ref T == Value.none) = true) from by simp)]
        have fin : wpAny (model X.prog X.w) X.A (setFlight (.ref a) X.env.frame) (fun _ s4 => wpAny (model X.prog X.w) X.A (throw (.ref a) : Sem Flow) (SP X pins D) X.xe s4) X.xe { s' with heap := h } := by
          rw [hf]
          refine HandSPX.setFlight_upZ fl fun h4 hh4 up4 => wpAny_throw (tk _ _ ?_)
          exact ⟨a, B, sI, pins, σ', H', cls, d, rfl, J, nb, (up.trans uph).trans up4, .inr (.inr (by rw [hs]; exact hh4)), na, os, ag, w⟩
        first
          | exact wpAny_bind (wpAny_pure (wpAny_bind fin))
          | exact wpAny_bind fin
      | @cons t n i cs ts b₀ suite pos' hds2 l2 ht hi hln hsu r ih =>
        intro h fl uph w
        obtain ⟨b, hb1, hyes, hno⟩ := w
        obtain ⟨nL, nF⟩ := away fl
        obtain ⟨oe3, vs3, he3, hz3, hd3⟩ := fl.there
        have J3 : Inv X pins σ' H' { s' with heap := h } := J.landed nb fl.1 (up.trans uph) os ag
        have S3 := J3.suite he3 hd3 na nL nF
        refine wpAny_handleBy_cons (codeAny_handlers_test (ht a oe3 (X.pn ++ pins) _ _ _ _ _ S3 fun c h5 k5 lk5 => ?_)) (by intro q; cases q)
        have fl5 := fly_keep fl k5
        have up5 : s'.heap.UpToSlots h5 := uph.trans (Heap.UpToSlots.of_keeps k5)
        have LT : PySem.W.Looks (model X.prog X.w) h5 (typeOf (.ref a)) cls := fun A Q E s k q => wpAny_typeOf_ref (k _ _ (k5 _ _ he3)) (by rw [hz3.1]; exact q)
        refine (lk5 (model X.prog X.w) X.K cls b (J3.kIn.keeps k5) LT hb1).here ?_
        cases b with
        | true =>
          refine codeAny_handlers_suite_as ?_
          refine HandSPX.lands_againZ fl5 fun h4 fl4 up4 => ?_
          have J4 : Inv X pins σ' H' { s' with heap := h4 } := J.landed nb fl4.1 ((up.trans up5).trans up4) os ag
          obtain ⟨oe4, vs4, he4, hz4, hd4⟩ := fl4.there
          obtain ⟨nL4, nF4⟩ := away fl4
          have S4 := J4.suite he4 hd4 na nL4 nF4
          refine store_ok (X := X.suite a ((a, oe4) :: (X.pn ++ pins))) (v := .ref a) S4 hN hi (.inl hln) rfl (fun s5 S5 => ?_) (.inr hln)
          refine wpAny_mono ((hsu a oe4 cls d (X.pn ++ pins) hz4 ⟨_, hd4⟩).run [] s5 _ H' _ S5 (hyes rfl a na)) (fun f s6 hsp => ?_) (fun _ _ z => False.elim z)
          have end_ : ∀ {σ6 : L2.St} {H6 : Hp} {Q : Shared → Prop}, Inv (X.suite a ((a, oe4) :: (X.pn ++ pins))) [] σ6 H6 s6 → (∀ s7, Inv X pins (σ6.set i none) H6 s7 → Q s7) →
              wpAny (model X.prog X.w) X.A (do bindName X.env n .none; unbindBehindTheSuite X.env n pos') (fun _ s7 => Q s7) X.xe s6 := fun {σ6 H6 Q} S6 hq => gone_ok (S6.unsuite ok) hN hi hln hq
          cases f with
          | next =>
            obtain ⟨σ6, H6, S6, q6⟩ := hsp
            exact end_ S6 fun s7 J7 => ⟨_, _, J7, q6⟩
          | brk =>
            obtain ⟨σ6, H6, S6, q6⟩ := hsp
            exact end_ S6 fun s7 J7 => ⟨_, _, J7, q6⟩
          | cont =>
            obtain ⟨σ6, H6, S6, q6⟩ := hsp
            exact end_ S6 fun s7 J7 => ⟨_, _, J7, q6⟩
          | ret u =>
            obtain ⟨v6, σ6, H6, S6, r6, q6⟩ := hsp
            exact end_ S6 fun s7 J7 => ⟨_, _, _, J7, r6, q6⟩
        | false =>
          show wpAny _ X.A (handleBy (.ref a) X.env hds2) _ _ _
          exact ih h5 fl5 up5 (hno rfl)
    exact go hh h3 fl3 up3 w
  · cases f with
    | next =>
      obtain ⟨σ', H', J', q⟩ := hsp
      exact wpAny_execs_nil ⟨σ', H', J'.ofTry ok, q⟩
    | brk =>
      obtain ⟨σ', H', J', q⟩ := hsp
      exact ⟨σ', H', J'.ofTry ok, q⟩
    | cont =>
      obtain ⟨σ', H', J', q⟩ := hsp
      exact ⟨σ', H', J'.ofTry ok, q⟩
    | ret u =>
      obtain ⟨v, σ', H', J', r, q⟩ := hsp
      exact ⟨v, σ', H', J'.ofTry ok, r, q⟩
end
end Z
/-! H, part L: a lambda handed to a def, exceptions of L2N; its maker's table is a part of the heap -/
namespace Z
open PySem PySem.Spec PyProof.Rows L2 L2H HotX
/-- the table of a def's code objects, all of the name q, and these -/
def ATab (P : Addr) (q : Str) : Asn := fun H => LamX.TabS H P q
theorem tab_S {P c' : Addr} {q : Str} {L : List Asn} {H : Hp} {ps : Array Value} {pos : Pos} (s : S (ATab P q :: L) H) (hP : H P = some (.tbl ps)) (nC : H c' = none) :
    S (ATab P q :: L) (upd (upd H P (.tbl (ps ++ #[rawInt pos.line, rawInt pos.col, .ref c']))) c' (LamX.CodeO c' q)) := by
  obtain ⟨h, g, ⟨ps1, e, ht, ha⟩, y, c, d, f⟩ := s
  have same : ps1 = ps := by
    have z := (c _ _ e).symm.trans hP
    cases z
    rfl
  subst same
  have gP : g P = none := f _ _ e rfl
  have gC : g c' = none := d.back nC
  have hC : h c' = none := c.back nC
  have far : P ≠ c' := ne_of_none hP nC
  have kept : ∀ b o, h b = some o → (∀ qs, o ≠ .tbl qs) → upd (upd h P (.tbl (ps1 ++ #[rawInt pos.line, rawInt pos.col, .ref c']))) c' (LamX.CodeO c' q) b = some o := fun b o z n => by
    rw [upd_ne (ne_of_none z hC), upd_ne (fun w => n ps1 (Option.some.inj (z.symm.trans (by rw [w]; exact e))))]
    exact z
  refine ⟨upd (upd h P (.tbl (ps1 ++ #[rawInt pos.line, rawInt pos.col, .ref c']))) c' (LamX.CodeO c' q), g, ⟨_, by rw [upd_ne far, upd_same], ?_, fun p' cv hc => ?_⟩, y, fun b o z => ?_, fun b o z => ?_, fun b o z m => ?_⟩
  · rw [Array.toList_append]
    exact PySem.TriplesOk_snoc _ _ _ _ ht
  · rw [Array.toList_append] at hc
    rcases LamX.among_app _ ht hc with w | w
    · obtain ⟨c0, w1, w2⟩ := ha p' cv w
      exact ⟨c0, w1, kept _ _ w2 LamX.codeO_ne⟩
    · exact ⟨c', w, upd_same⟩
  · by_cases b1 : b = c'
    · subst b1
      rw [upd_same] at z ⊢
      exact z
    · rw [upd_ne b1] at z ⊢
      by_cases b2 : b = P
      · subst b2
        rw [upd_same] at z ⊢
        exact z
      · rw [upd_ne b2] at z ⊢
        exact c _ _ z
  · have b1 : b ≠ c' := fun w => by rw [w, gC] at z; cases z
    have b2 : b ≠ P := fun w => by rw [w, gP] at z; cases z
    rw [upd_ne b1, upd_ne b2]
    exact d _ _ z
  · by_cases b1 : b = c'
    · rw [b1]; exact gC
    · rw [upd_ne b1] at z
      by_cases b2 : b = P
      · rw [b2]; exact gP
      · rw [upd_ne b2] at z
        exact f _ _ z m
section
variable {X : Cx} {pins : List (Addr × Obj)} {σ : L2.St} {H : Hp} {s : Shared}
/-- a lambda is made: its code object is found in the table, or is new there -/
theorem lam_makeS {c P : Addr} {q : Str} {params : Arguments} {body : Expr} {scope : Scope} {pos : Pos} {E Q : Value → Shared → Prop} (I : Inv X pins σ H s) (TB : LamX.TabB X.base X.mg c P) (hcode : X.env.code = .ref c)
    (eq : q = X.env.qual ++ "<lambda>") (hT : LamX.TabS H P q) (hdef : defaultsOf params X.env = ([], [])) (hfree : ∀ y ∈ scope.names, y.2 = .free → ∃ c, X.env.cells.lookup y.1 = some c)
    (h : ∀ (f c' : Addr) (pm ctv : Value) (H1 : Hp) (s' : Shared), Inv X pins σ H1 s' → (∀ L, S (ATab P q :: L) H → S (ATab P q :: L) H1) →
      s'.heap.get? f = some (PySem.W.kla_obj "<lambda>" (X.env.qual ++ "<lambda>") params body scope (cloFrom X.env.cells scope.names []) pm c' ctv) → H1 f = none → f ∉ frs X.stack → H1 c' = some (LamX.CodeO c' q) → Q (.ref f) s') :
    wpAny (model X.prog X.w) X.A (eval (.Lambda params body scope pos) X.env) Q E s := by
  subst eq
  obtain ⟨ps, hP, ht, ha⟩ := hT
  have atP : s.heap.get? P = some { cls := .none, data := .fields ps } := I.hok P _ hP
  have blt : s.heap.BuiltinsAt X.mg P := TB.bm.keeps I.bk
  have hd := TB.code.keeps I.bk
  have out : ∀ f, s.heap.objs.size ≤ f → f ∉ frs X.stack := by
    intro f hf z
    cases List.mem_cons.mp (I.stkSub _ z) with
    | inl w => subst w; exact absurd I.lt (Nat.not_lt.mpr hf)
    | inr w => exact I.nofs hf w
  refine PySem.W.kla_eval hdef ?_
  match hc : codeAmong pos ps.toList with
  | some cv =>
    obtain ⟨c', rfl, known⟩ := ha pos cv hc
    refine PySem.W.kla_makeFunctionHit (mg := X.mg) (c := c) (P := P) (ps := ps) (closure_ok hfree) I.ok.glob (I.mod.glob.keeps I.bk) hcode hd atP ht hc blt ?_
    intro ctv h' tk hx hsz
    exact h h'.objs.size c' _ ctv H _ (I.kept fun b o z => Heap.get?_push_of_some _ (hx b o z)) (fun L z => z) (Heap.get?_push_size _ rfl) (I.hok.fresh hsz) (out _ hsz) known
  | none =>
    refine PySem.W.kla_makeFunction (mg := X.mg) (c := c) (P := P) (ps := ps) (closure_ok hfree) I.ok.glob (I.mod.glob.keeps I.bk) hcode hd atP ht hc TB.gP blt ?_
    intro c1 ctv h' tk hx lo hi rec tab
    obtain ⟨c', oc, vs, t, e2, at_, dat, nam⟩ := rec
    cases e2
    have nC : H c1 = none := I.hok.fresh lo
    have big : s.heap.objs.size ≤ h'.objs.size := Nat.le_trans lo (Nat.le_of_lt hi)
    have I1 := LamX.inv_table (q := X.env.qual ++ "<lambda>") (t' := tk) (more := #[rawInt pos.line, rawInt pos.col, .ref c1]) (h' := h'.push (PySem.W.kla_obj "<lambda>" (X.env.qual ++ "<lambda>") params body scope (cloFrom X.env.cells scope.names []) ((X.mg "__name__").getD .none) c1 ctv)) I hP
      (fun b o nb z => Heap.get?_push_of_some _ (hx b o nb z)) (Heap.get?_push_of_some _ tab) lo ⟨oc, vs, t, Heap.get?_push_of_some _ at_, dat, nam⟩
    refine h h'.objs.size c1 _ ctv _ _ I1 (fun L z => tab_S z hP nC) (Heap.get?_push_size _ rfl) ?_ (out _ big) upd_same
    rw [upd_ne (Nat.ne_of_gt hi), upd_ne (Nat.ne_of_gt (Nat.lt_of_lt_of_le (Heap.lt_size atP) big))]
    exact I.hok.fresh big
end
/-- the frame of the lambda's body -/
abbrev lamN (X : Cx) (A : Around) (outer : List Env) (s : Shared) (H : Hp) (E : XK) (scope : Scope) (f c' : Addr) : Cx :=
  (LamX.lamCx X A outer s H (fun _ _ _ => False) scope f c').tr [] fun e s' => wpAny (model X.prog X.w) (A.deeper (LamX.lamEnv X scope s.heap.objs.size f c')) (leaving (LamX.lamEnv X scope s.heap.objs.size f c') e)
    (fun _ s'' => L2N.CX X.prog X.w outer H s E e s'') (fun e' s'' => L2N.CX X.prog X.w outer H s E e' s'') s'
/-- the lambda's body, read wherever it is called -/
def LamB (X : Cx) (k : Nat) (scope : Scope) (body : Expr) (t : XK → TE) : Prop :=
  ∀ (A : Around) (outer : List Env) (s : Shared) (H : Hp) (E : XK) (f c' : Addr), Room k (A.deeper (LamX.lamEnv X scope s.heap.objs.size f c')) → A.guards = some [] → PE (lamN X A outer s H E scope f c') body (t E)
/-- the handed lambda may be called in this frame: tl is what it does -/
def Deed (P : Program) (w : World) (K : PySem.W.Frag) (mg : Str → Option Value) (base : Heap) (N : List Str) (x : Str) (sg : Scope) (g : Addr) (cd : Value) (A : Around) (outer : List Env) (s : Shared) (H : Hp) (a : Str) (f c' : Addr) (q : Str) (tl : XK → Hp → VK → Prop) : Prop :=
  ∀ (W : WX) (pn : List (Addr × Obj)) (xe : Value → Shared → Prop) (E : XK) (p1 p2 : Pos), L2N.Takes ((cx P w K mg base N x sg g cd A outer s H (fun _ _ _ => False)).tr pn xe) W → (∀ cls d σ' H', E cls d H' → W cls d σ' H') →
    PE ((cx P w K mg base N x sg g cd A outer s H (fun _ _ _ => False)).tr pn xe) (.Call (.Name a p1) [] [] p2) (fun σZ HZ Q => σZ[0]? = some (some (.ref f)) ∧ HZ c' = some (LamX.CodeO c' q) ∧ tl E HZ Q)
/-- a def of one parameter, which calls what it is handed: TT is what it makes of it -/
structure GivT (P : Program) (w : World) (K : PySem.W.Frag) (mg : Str → Option Value) (base : Heap) (j : Nat) (x : Str) (TT : (XK → Hp → VK → Prop) → Hp → VK → Prop) : Prop where
  ex : ∃ (g : Addr) (fd : FuncData) (args : Arguments) (body : List Stmt) (sg : Scope) (dV kV : Value) (N : List Str) (a : Str), Txt K x x args body sg dV kV g fd ∧ mg x = some (.ref g) ∧ Binds K fd [a] [] ∧ FnScope N [a] sg ∧ N[0]? = some a ∧ Vis sg a ∧ (a == ("__debug__" : Str)) = false ∧ (a == ("__classdict__" : Str)) = false ∧
    ∀ (cd : Value) (A : Around) (outer : List Env) (s : Shared) (H : Hp) (Q : VK) (f c' : Addr) (q : Str) (tl : XK → Hp → VK → Prop), Room j (A.deeper (envOfC x sg s.heap.objs.size g cd)) → A.guards = some [] → Deed P w K mg base N x sg g cd A outer s H a f c' q tl → H c' = some (LamX.CodeO c' q) → TT tl H Q →
      ∃ t : TS, PSs (cx P w K mg base N x sg g cd A outer s H (fun _ _ _ => False)) body t ∧ t { nx := fun _ H' => Q .non H', rt := Q } (start N [.ref f]) H
section
variable {X : Cx} {pins : List (Addr × Obj)} {σ : L2.St} {H HZ : Hp} {s s1 : Shared}
theorem lam_startN {A : Around} {outer : List Env} {E : XK} {scope : Scope} {f c' : Addr} {h₁ : Heap} {tk : Nat} (I : Inv X pins σ H s) (L : LamX.LamS X.env.scope scope) (e0 : Env0 X.prog X.w X.K X.mg X.base A outer s1 HZ) (hd : A.handled = none)
    (un : Un (frs X.stack) [] H HZ s.heap s1.heap) (hns : h₁.Ns s1.heap.objs.size fun y => ([] : List (Str × Value)).reverse.lookup y) (kp : ∀ b o, s1.heap.get? b = some o → h₁.get? b = some o) :
    Inv (lamN X A outer s1 HZ E scope f c') [] σ HZ { s1 with heap := h₁, toks := tk } :=
  (LamX.lam_start2 (E := fun _ _ _ => False) (f := f) (c' := c') I L e0 hd un hns kp).toTry _
theorem deed_of {N : List Str} {x : Str} {sg : Scope} {g f c' : Addr} {cd pm ctv : Value} {params : Arguments} {body : Expr} {scope : Scope} {k : Nat} {a : Str} {t : XK → TE}
    (I : Inv X pins σ H s) (ng : X.A.guards = some []) (L : LamX.LamS X.env.scope scope) (hf : s.heap.get? f = some (PySem.W.kla_obj "<lambda>" (X.env.qual ++ "<lambda>") params body scope (cloFrom X.env.cells scope.names []) pm c' ctv)) (hfn : H f = none) (hfr : f ∉ frs X.stack)
    (hbind : bindArgs (PySem.W.kla_fn "<lambda>" (X.env.qual ++ "<lambda>") params body scope (cloFrom X.env.cells scope.names []) pm (.ref c') ctv) ⟨[], []⟩ = pure [])
    (hr : Room (k + 1) (X.A.deeper (envOfC x sg s.heap.objs.size g cd))) (hbody : LamB X k scope body t)
    (hN : N[0]? = some a) (hv : Vis sg a) (hd : (a == ("__debug__" : Str)) = false) (hcd : (a == ("__classdict__" : Str)) = false) :
    Deed X.prog X.w X.K X.mg X.base N x sg g cd X.A X.stack s H a f c' (X.env.qual ++ "<lambda>") (fun E H' Q' => t E σ H' Q') := by
  intro W pn xe E p1 p2 tk hW
  refine ⟨fun pinsZ sZ σZ HZ Q IZ h => ?_⟩
  obtain ⟨hs, hc, ht⟩ := h
  have var := (pe_var (X := (cx X.prog X.w X.K X.mg X.base N x sg g cd X.A X.stack s H (fun _ _ _ => False)).tr pn xe) (pos := p1) (i := 0) hN hv hd hcd).run pinsZ sZ σZ HZ (fun v H1 => v = .ref f ∧ H1 = HZ) IZ ⟨.ref f, hs, rfl, rfl⟩
  refine wpAny_Call_Name_kw (thn var fun u s1 hu => ?_)
  obtain ⟨v, H1, I1, rv, rfl, rfl⟩ := hu
  obtain rfl : u = Value.ref f := rv
  have there : s1.heap.get? f = some (PySem.W.kla_obj "<lambda>" (X.env.qual ++ "<lambda>") params body scope (cloFrom X.env.cells scope.names []) pm c' ctv) := I1.base.keep f _ hf hfn hfr (fun z => nomatch (show f ∈ ([] : List Addr) from z))
  refine PySem.W.callWith_F0 ⟨_, _, _, _, there⟩ ?_
  have un : Un (frs X.stack) [] H H1 s.heap s1.heap := I1.base
  have code := (I1.hok c' _ hc).1
  obtain ⟨oc, vs, t0, hoc, hdc, hvc⟩ := code
  have rc : codeAny (model X.prog X.w) (X.A.deeper (envOfC x sg s.heap.objs.size g cd)) (.call (.ref f) ⟨[], []⟩) (CR (L2N.CX X.prog X.w) (envOfC x sg s.heap.objs.size g cd :: X.stack) X.prog X.w H1 s1 Q E) s1 := by
    refine PySem.W.kla_callFunE hr.depth there rfl L.co L.gen rfl ⟨c', oc, vs, t0, rfl, hoc, hdc, hvc⟩ ?_
    rw [hbind]
    refine wpAny_pure (wpAny_newFunctionEnv (fun y hy => (L.own y hy).2) (fun y hy => absurd hy List.not_mem_nil) (fun h₁ hns hsb => ⟨I1.nolimit.fresh _ hsb, ?_⟩) L.kind)
    show codeAny _ _ (.expr body (LamX.lamEnv X scope s1.heap.objs.size f c')) _ _
    have kp : ∀ b o, s1.heap.get? b = some o → h₁.get? b = some o := fun b o z => hsb.extBut b o (Nat.ne_of_lt (Heap.lt_size z)) (Heap.get?_push_of_some _ z)
    have J := lam_startN (E := E) (f := f) (c' := c') (tk := s1.toks + ([] : List (Str × Value)).length) I L I1.env0 hr.hd un hns kp
    refine PySem.W.kla_codeExpr (wpAny_mono ((hbody _ _ s1 H1 E f c' (hr.deeper _) ng).run [] _ _ H1 Q J ht) ?_ fun e s' z => z)
    rintro v s' ⟨w', H', J', rv, q⟩
    exact ⟨w', H', J'.os, J'.bare, J'.base, J'.hok, rv, q⟩
  refine wpAny_call (codeAny_mono rc fun r s' hq => ?_)
  match r, hq with
  | .ok (.ret u), hq => exact I1.after hq
  | .ok .next, hq => exact False.elim hq
  | .ok .brk, hq => exact False.elim hq
  | .ok .cont, hq => exact False.elim hq
  | .error e, hq => exact L2N.passes_call tk hW pinsZ σZ H1 s1 e s' I1 hq
/-- f(lambda: body) -/
def tLamN (P : Addr) (q : Str) (TT : (XK → Hp → VK → Prop) → Hp → VK → Prop) (t : XK → TE) : TE := fun σ H Q => ∃ L, S (ATab P q :: L) H ∧ ∀ H1, S (ATab P q :: L) H1 → TT (fun E H' Q' => t E σ H' Q') H1 Q
theorem pe_lamN {x : Str} {j k : Nat} {c P : Addr} {q : Str} {TT : (XK → Hp → VK → Prop) → Hp → VK → Prop} {params : Arguments} {body : Expr} {scope : Scope} {t : XK → TE} {p lpos pos : Pos} (D : GivT X.prog X.w X.K X.mg X.base j x TT) (room : Room (k + 2) X.A) (hj : j ≤ k + 1) (ng : X.A.guards = some []) (hg : Gl X x)
    (TB : LamX.TabB X.base X.mg c P) (hcode : X.env.code = .ref c) (hq : q = X.env.qual ++ "<lambda>") (L : LamX.LamS X.env.scope scope) (hdef : defaultsOf params X.env = ([], []))
    (hbind : ∀ (q : Str) (cl : List (Str × Addr)) (pm cv ctv : Value), bindArgs (PySem.W.kla_fn "<lambda>" q params body scope cl pm cv ctv) ⟨[], []⟩ = pure []) (hbody : LamB X k scope body t)
    (hdb : (x == ("__debug__" : Str)) = false := by decide) :
    PE X (.Call (.Name x p) [.Lambda params body scope lpos] [] pos) (tLamN P q TT t) := by
  obtain ⟨g, fd, args, bg, sg, dV, kV, N, a, T, hm, hb, Sg, hN0, hva, hd, hcd, run⟩ := D.ex
  obtain ⟨oc, od, doc, pm0, an, cd, ct, osl, rfl, lk, hco⟩ := T.ex
  refine ⟨fun pins s σ H Q I want => ?_⟩
  obtain ⟨L0, hs, want⟩ := want
  have hT : LamX.TabS H P q := by
    obtain ⟨h0, g0, ht, _, up, _⟩ := hs
    exact ht.ext up
  refine wpAny_Call_Name_kw (ld_glob I hg hm ?_ hdb)
  refine PySem.W.callWith_K (h₀ := X.base) I.ok.mod.kin T.kp ?_ (by rfl) (by rfl)
  show wpAny _ _ (spliced ((false, eval (.Lambda params body scope lpos) X.env) :: backTo pos (starEach [] X.env))) _ _ s
  refine Calls.spliced_cons (lam_makeS I TB hcode hq hT hdef (L.has I.ok) fun f c' pm' ctv H1 s' I1 keep hf hfn hfr hco' => ?_)
  refine Calls.spliced_nil ⟨I1.kIn, ?_⟩
  subst hq
  have rc : codeAny (model X.prog X.w) X.A (.call (.ref g) ⟨[.ref f], []⟩) (CR (L2N.CX X.prog X.w) X.stack X.prog X.w H1 s' Q (fun _ _ _ => False)) s' := by
    refine LamX.run_ofS (N := N) (ps := [a]) (us := [.ref f]) (vs := [.ref f]) lk hco Sg room I1.env0 (hb s' [.ref f] I1.kIn rfl) (.cons rfl .nil) rfl fun hr' => ?_
    exact run cd X.A X.stack s' H1 Q f c' _ _ (hr'.mono hj) ng (deed_of I1 ng L hf hfn hfr (hbind _ _ _ _ _) hr' hbody hN0 hva hd hcd) hco' (want H1 (keep L0 hs))
  refine wpAny_call (codeAny_mono rc fun r s2 hq => ?_)
  match r, hq with
  | .error _, hq =>
    obtain ⟨_, _, _, _, _, _, _, _, _, _, _, _, no⟩ := hq
    exact no.elim
  | .ok (.ret u), hq => exact I1.after hq
  | .ok .next, hq => exact False.elim hq
  | .ok .brk, hq => exact False.elim hq
  | .ok .cont, hq => exact False.elim hq
end
end Z
/-! H, part M: own classes of errors told by name and field -/
namespace Z
open PySem PySem.Spec PyProof.Rows L2 L2H HotX
/-- what an error of the class bears -/
def Bore (fo : Option Str) (d : Option Addr) (H : Hp) (v : V) : Prop := match fo with
  | none => v = .non ∧ d = none
  | some fl => ∃ dd, d = some dd ∧ H dd = some (.xd [(fl, v)])
theorem Bore.up {fo : Option Str} {d : Option Addr} {H H' : Hp} {v : V} (b : Bore fo d H v) (e : Ex H H') : Bore fo d H' v := by
  cases fo with
  | none => exact b
  | some fl => exact b.elim fun dd z => ⟨dd, z.1, e _ _ z.2⟩
theorem Bore.bears {fo : Option Str} {d : Option Addr} {H : Hp} {v : V} (b : Bore fo d H v) : Bears H d := fun dd e => by
  cases fo with
  | none => rw [b.2] at e; cases e
  | some fl => obtain ⟨d2, z, w⟩ := b; rw [z] at e; cases e; exact ⟨_, w⟩
theorem excB_ok {K : PySem.W.Frag} {D : Addr} (h : excB K D = true) : ExcC K D := by
  unfold excB at h
  simp only [Bool.and_eq_true, decide_eq_true_eq] at h
  obtain ⟨h1, h2, h3, h4, h5, h6, h7, h8⟩ := h
  exact ⟨h1, h2, h3, h4, h5, h6, h7, h8⟩
theorem kitS_eq {K : PySem.W.Frag} {C : Addr} {v : Value} (h : kitS K C v = true) : PySem.W.kitOne K (.ref C) v = some (kitT K C v) := by
  unfold kitS at h
  unfold kitT
  cases q : PySem.W.kitOne K (.ref C) v with
  | none => rw [q] at h; cases h
  | some b => rfl
structure RefK (K : PySem.W.Frag) (R : List Ref) (vE cE : Value) (i : Nat) (r : Ref) : Prop where
  at_ : R[i]? = some r
  exc : ExcC K r.C
  xf : XfC K r.C
  no : ∀ f, r.fo = some f → PySem.W.findIn K (.ref r.C) f = some none
  kit : ∀ (j : Nat) (r' : Ref), R[j]? = some r' → PySem.W.kitOne K (.ref r.C) (.ref r'.C) = some (decide (i = j))
  exm : ∀ (j : Nat) (r' : Ref), R[j]? = some r' → PySem.W.exmOne K (.ref r.C) (.ref r'.C) = some (decide (i = j))
  kup : ∀ (j : Nat) (r' : Ref), R[j]? = some r' → PySem.W.kitOne K (.ref r.C) r'.up = some (kitT K r.C r'.up)
  own : kitT K r.C r.up = true
  kv : PySem.W.kitOne K (.ref r.C) vE = some (kitT K r.C cE)
  kc : PySem.W.kitOne K (.ref r.C) cE = some (kitT K r.C cE)
theorem idx_mem {α : Type} {l : List α} {i : Nat} {x : α} (h : l[i]? = some x) : (x, i) ∈ l.zipIdx := by
  obtain ⟨hi, e⟩ := List.getElem?_eq_some_iff.mp h
  rw [List.mem_zipIdx_iff_getElem?]
  exact h
theorem refB_ok {K : PySem.W.Frag} {R : List Ref} {vE cE : Value} (h : refB K R vE cE = true) {i : Nat} {r : Ref} (hi : R[i]? = some r) : RefK K R vE cE i r := by
  have z := List.all_eq_true.mp h (r, i) (idx_mem hi)
  unfold refOne at z
  simp only [Bool.and_eq_true] at z
  obtain ⟨z1, z2, z3, z4, z5, z6, z7, z8⟩ := z
  have all4 := fun j r' hj => List.all_eq_true.mp z4 (r', j) (idx_mem (l := R) (i := j) (x := r') hj)
  simp only [Bool.and_eq_true, decide_eq_true_eq] at all4
  refine ⟨hi, excB_ok z1, xfB_ok z2, fun f hf => ?_, fun j r' hj => (all4 j r' hj).1.2, fun j r' hj => (all4 j r' hj).2, fun j r' hj => kitS_eq (all4 j r' hj).1.1, z5, (kitS_eq z6).trans (congrArg some (eq_of_beq z8)), kitS_eq z7⟩
  rw [hf] at z3
  exact of_decide_eq_true z3
/-- a refusal's class and what it bears -/
def Refused (R : List Ref) (cls : Value) (d : Option Addr) (H : Hp) (k : List Nat → V → Prop) : Prop := ∃ (i : Nat) (r : Ref) (v : V), R[i]? = some r ∧ cls = .ref r.C ∧ Bore r.fo d H v ∧ k r.nm v
theorem refused_ {R : List Ref} {C : Addr} {d : Option Addr} {H : Hp} {k : List Nat → V → Prop} (i : Nat) {r : Ref} {v : V} (hi : R[i]? = some r) (hc : r.C = C) (b : Bore r.fo d H v) (q : k r.nm v) : Refused R (.ref C) d H k := ⟨i, r, v, hi, by rw [hc], b, q⟩
/-- a pair of a word and a value is answered -/
def Answer (nm : List Nat) (v : V) (Q : VK) (H1 : Hp) : Prop := ∀ H2 p, Ex H1 H2 → H1 p = none → H2 p = some (.tup [T nm, v]) → Q (.ref p) H2
theorem answer_ {nm : List Nat} {v : V} {Q : VK} {H : Hp} {L : List Asn} (s : S L H) (k : ∀ H2 p, S (pts p (.tup [T nm, v]) :: L) H2 → Q (.ref p) H2) : Answer nm v Q H := fun H2 p e n q => k H2 p (s.new n e q)
/-- what is told of a deed: ("told", it), or the refusal's name and field -/
def tTold (R : List Ref) : (XK → Hp → VK → Prop) → Hp → VK → Prop := fun tl H Q =>
  tl (fun cls d H1 => Refused R cls d H1 fun nm v => Answer nm v Q H1) H (fun v H1 => Answer [116, 111, 108, 100] v Q H1)
theorem told_S {R : List Ref} {P : Addr} {q : Str} {t : XK → TE} {σ : L2.St} {H : Hp} {Q : VK} {L M : List Asn} (s : S L H) (p : Pick (ATab P q) L M)
    (k : ∀ H1, S (ATab P q :: M) H1 → t (fun cls d H2 => Refused R cls d H2 fun nm v => Answer nm v Q H2) σ H1 (fun v H2 => Answer [116, 111, 108, 100] v Q H2)) : tLamN P q (tTold R) t σ H Q := ⟨M, s.pick p, fun H1 s1 => k H1 s1⟩
/-- which class of ours an error is of -/
def spWhich (R : List Ref) (p : Addr × Obj) : Sp := fun vs H Q _ => ∃ (i : Nat) (r : Ref) (d : Option Addr), vs = [.ref p.1] ∧ R[i]? = some r ∧ Zc (.ref r.C) d p.2 ∧ (∃ vs, p.2.data = .fields vs) ∧ Bears H d ∧ ∀ H', Ex H H' → Q (T r.nm) H'
section
variable {X : Cx} {a : Addr} {oe : Obj} {cls : Value} {d : Option Addr} {pn : List (Addr × Obj)}
/-- the caught error's field -/
def tXfN (K : PySem.W.Frag) (a : Addr) (cls : Value) (d : Option Addr) (n : Str) (te : TE) : TE := fun σ H Q => ∃ C, XfC K C ∧ PySem.W.findIn K (.ref C) n = some none ∧ tXf a cls d C n te σ H Q
theorem pe_xfN {e : Expr} {te : TE} {pos : Pos} {n : Str} (hz : Zc cls d oe) (hf : ∃ vs, oe.data = .fields vs) (he : PE (X.suite a ((a, oe) :: pn)) e te) (hb : attributeBase e n X.env (eval e X.env) = eval e X.env := by rfl) :
    PE (X.suite a ((a, oe) :: pn)) (.Attribute e n pos) (tXfN X.K a cls d n te) :=
  ⟨fun pins s σ H Q I h => h.elim fun C q => (pe_xf (C := C) (d := d) (pos := pos) q.1 q.2.1 hz hf he hb).run pins s σ H Q I q.2.2⟩
end
end Z
/-! H, part N: a def that makes lambdas, what is known of its code; the law's call with such tables -/
namespace Z
open PySem PySem.Spec PyProof.Rows L2
theorem tabB_ok {K : PySem.W.Frag} {x : Str} (h : tabB K x = true) : ∃ c, PySem.W.tabIn K x = some (c, tabP K x) ∧ K.lookup (tabP K x) = none := by
  unfold tabB at h
  split at h
  · rename_i c P e
    have t : tabP K x = P := by unfold tabP; rw [e]; rfl
    refine ⟨c, by rw [t]; exact e, ?_⟩
    rw [t]
    exact Option.isNone_iff_eq_none.mp h
  · cases h
/-- the def x makes lambdas -/
abbrev AT (K : PySem.W.Frag) (x : Str) : Asn := ATab (tabP K x) (x ++ ".<locals>." ++ "<lambda>")
structure Tb (K : PySem.W.Frag) (mg : Str → Option Value) (base : Heap) (x : Str) (f : Addr) : Prop where
  gl : PySem.W.nsIn K mainGlobals x = some (some (.ref f))
  ex : ∃ c, PySem.W.tabIn K x = some (c, tabP K x) ∧ LamX.TabB base mg c (tabP K x)
section
variable {P : Program} {w : World} {K : PySem.W.Frag} {mg : Str → Option Value} {base : Heap}
theorem Tb.code {x y qual : Str} {args : Arguments} {body : List Stmt} {sc : Scope} {dV kV : Value} {f : Addr} {fd : FuncData} (t : Tb K mg base x f) (T : Txt K y qual args body sc dV kV f fd) : ∃ c, fd.code = .ref c ∧ LamX.TabB base mg c (tabP K x) := by
  obtain ⟨c, ht, hb⟩ := t.ex
  obtain ⟨oc, od, doc, pm, an, cd, ct, osl, rfl, lk, hcd⟩ := T.ex
  refine ⟨c, ?_, hb⟩
  unfold PySem.W.tabIn at ht
  rw [t.gl] at ht
  dsimp only at ht
  rw [lk] at ht
  dsimp only at ht
  split at ht
  · split at ht
    · split at ht
      · cases ht
        rfl
      · cases ht
    · cases ht
  · cases ht
theorem z_fnT {x y qual : Str} {args : Arguments} {body : List Stmt} {sc : Scope} {dV kV : Value} {f : Addr} {fd : FuncData}
    {N ps : List Str} {k : Nat} {sp : Sp} (t : Tb K mg base x f) (T : Txt K y qual args body sc dV kV f fd) (S : FnScope N ps sc) (len : ∀ vs H Q E, sp vs H Q E → vs.length = ps.length)
    (hb : ∀ (c : Addr), LamX.TabB base mg c (tabP K x) → ∀ (A : Around) (outer : List Env) (s : Shared) (H : Hp) (vs : List V) (Q : VK) (E : XK), Room k (A.deeper (envOfC qual sc s.heap.objs.size f (.ref c))) → A.guards = some [] → sp vs H Q E →
      ∃ (t : TS) (σ : L2.St), start N vs = σ ∧ PSs (cx P w K mg base N qual sc f (.ref c) A outer s H E) body t ∧ t { nx := fun _ H' => Q .non H', rt := Q } σ H) :
    FnG P w K mg base (k + 1) f fd ps sp := z_fnC T S len fun cd e => by
  obtain ⟨c, h1, h2⟩ := t.code T
  obtain rfl : cd = .ref c := e.symm.trans h1
  exact hb c h2
end
/-- all tables of some defs, empty -/
def Emp (K : PySem.W.Frag) (xs : List Str) (H : Hp) : Prop := ∀ x ∈ xs, H (tabP K x) = some (.tbl #[])
theorem tabs_start {K : PySem.W.Frag} : ∀ {xs : List Str} {H : Hp} {L : List Asn}, (xs.map (tabP K)).Nodup → Emp K xs H → (∃ g, S L g ∧ Ex g H ∧ ∀ x ∈ xs, g (tabP K x) = none) → S (xs.map (AT K) ++ L) H := by
  intro xs
  induction xs with
  | nil =>
    intro H L _ _ ⟨g, s, e, _⟩
    exact s.up e
  | cons x xs ih =>
    intro H L nd em ⟨g, s, e, no⟩
    rw [List.map_cons, List.nodup_cons] at nd
    -- the rest stands in what is not x's table
    have eR : Ex (fun b => if b = tabP K x then none else H b) H := fun b o z => by
      have z : (if b = tabP K x then none else H b) = some o := z
      by_cases q : b = tabP K x
      · rw [if_pos q] at z; cases z
      · rw [if_neg q] at z; exact z
    refine ⟨one (tabP K x) (.tbl #[]), fun b => if b = tabP K x then none else H b, ⟨#[], one_at _ _, trivial, fun pos cv hc => ?_⟩, ih nd.2 (fun y hy => ?_) ⟨g, s, fun b o z => ?_, fun y hy => no y (.tail _ hy)⟩, one_ex (em x (.head _)), eR, one_dis (if_pos rfl)⟩
    · have z : codeAmong pos [] = some cv := hc
      simp [codeAmong] at z
    · have ne : tabP K y ≠ tabP K x := fun q => nd.1 (List.mem_map.mpr ⟨y, hy, q⟩)
      show (if tabP K y = tabP K x then none else H (tabP K y)) = _
      rw [if_neg ne]
      exact em y (.tail _ hy)
    · have ne : b ≠ tabP K x := fun q => by rw [q, no x (.head _)] at z; cases z
      show (if b = tabP K x then none else H b) = _
      rw [if_neg ne]
      exact e _ _ z
end Z
/-! H, part O: the law's own call where defs that make lambdas are reached -/
namespace Z
open PySem PySem.Spec PyProof.Rows L2
/-- the table of x's code, where the law is called: empty, not told by K -/
def TabIs (K : PySem.W.Frag) (h : Heap) (x : Str) : Prop := ∃ c, PySem.W.tabIn K x = some (c, tabP K x) ∧ PySem.W.CodeHd h c (tabP K x) ∧ h.get? (tabP K x) = some { cls := .none, data := .fields #[] } ∧ K.lookup (tabP K x) = none
/-- known to the defs -/
def TabK (K : PySem.W.Frag) (mg : Str → Option Value) (base : Heap) (x : Str) : Prop := ∃ c, PySem.W.tabIn K x = some (c, tabP K x) ∧ LamX.TabB base mg c (tabP K x)
/-- the script, if it is tracked, and the empty tables -/
def Only (K : PySem.W.Frag) (xs : List Str) (a : Addr) (H : Hp) : Prop := ∀ b, H b = none ∨ (b = a ∧ K.lookup a = none ∧ ∃ o l, H b = some (.frz o (.lst l))) ∨ ∃ x ∈ xs, b = tabP K x ∧ H b = some (.tbl #[])
theorem law_fromT {P : Program} {w : World} {K : PySem.W.Frag} {mg mb : Str → Option Value} {k : Nat} {fa a : Addr} {fd : FuncData} {x : Str} {sp : Sp} {s₁ : Shared} {oa : Obj} {H : Hp} {xs : List Str}
    (inK : K.In s₁.heap) (ns : s₁.heap.Ns mainGlobals mg) (bl : s₁.heap.Ns builtinsNs mb) (bl2 : ∀ x : Str, x ≠ "__name__" → mb x = bootBuiltins x) (lim : s₁.heap.NoLimit) (noGens : s₁.gens = #[])
    (bm : ∃ (bm : Addr) (ob : Obj), mg "__builtins__" = some (.ref bm) ∧ bm ≠ builtinsNs ∧ s₁.heap.get? bm = some ob ∧ ob.cls = .type "module" ∧ ob.dict = some builtinsNs ∧ ob.data = .plain)
    (tabs : ∀ x ∈ xs, TabIs K s₁.heap x) (obj : s₁.heap.get? a = some oa) (isList : ∃ vs, oa.data = .seq vs oa.slots.size ∨ ∃ n, oa.data = .seq vs n) (room : Room k callerA)
    (F : ∀ base : Heap, K.In base → base.Ns mainGlobals mg → (∀ x ∈ xs, TabK K mg base x) → FnG P w K mg base k fa fd [x] sp) (binds : ∀ (s : Shared) (u : Value), BindsTo s fd ⟨[u], []⟩ [(x, u)])
    (want : sp [.ref a] H (fun v _ => v = .bl true) fun _ _ _ => False) (ok : HOk P w H s₁.heap) (only : Only K xs a H) :
    codeAny (model P w) callerA (.call (.ref fa) ⟨[.ref a], []⟩) (fun r s' => r = .ok (.ret (.bool true)) ∧ OldK s₁.heap s'.heap ∧ s'.os = s₁.os ∧ AllBare s'.gens) s₁ := by
  -- what is neither a list nor an empty record is not tracked
  have free : ∀ {b : Addr} {o : Obj}, s₁.heap.get? b = some o → (∀ vs n, o.data ≠ .seq vs n) → o.data ≠ .fields #[] → H b = none := by
    intro b o q n1 n2
    rcases only b with z | ⟨rfl, _, _⟩ | ⟨y, hy, rfl, _⟩
    · exact z
    · rw [obj] at q
      cases q
      obtain ⟨vs, z | ⟨n, z⟩⟩ := isList
      · exact absurd z (n1 _ _)
      · exact absurd z (n1 _ _)
    · obtain ⟨c, _, _, z, _⟩ := tabs y hy
      rw [z] at q
      cases q
      exact absurd rfl n2
  have nsH : ∀ {b : Addr} {m : Str → Option Value}, s₁.heap.Ns b m → (hidT s₁.heap H).Ns b m := by
    rintro b m ⟨o, es, ep, q, d, more⟩
    exact ⟨o, es, ep, hidT_get q (free q (fun _ _ z => by rw [d] at z; cases z) (fun z => by rw [d] at z; cases z)), d, more⟩
  have inB : K.In (hidT s₁.heap H) := by
    intro b o q
    refine hidT_get (inK b o q) ?_
    rcases only b with z | ⟨rfl, no, _⟩ | ⟨y, hy, rfl, _⟩
    · exact z
    · rw [no] at q
      cases q
    · obtain ⟨c, _, _, _, no⟩ := tabs y hy
      rw [no] at q
      cases q
  have module : Mod K mg (hidT s₁.heap H) := by
    obtain ⟨mc, l1, l2⟩ := lim
    exact ⟨inB, nsH ns, ⟨mb, nsH bl, bl2⟩, mc, nsH l1, l2⟩
  have known : ∀ y ∈ xs, TabK K mg (hidT s₁.heap H) y := by
    intro y hy
    obtain ⟨c, t1, hd, t2, _⟩ := tabs y hy
    refine ⟨c, t1, ⟨?_, ?_, ?_⟩⟩
    · obtain ⟨o, us, file, tf, flags, tg, inF, text, tt, e1, r1, r2, r3, r⟩ := hd
      refine ⟨o, us, file, tf, flags, tg, inF, text, tt, hidT_get e1 (free e1 (fun _ _ z => by rw [r2] at z; cases z) fun z => ?_), r1, r2, r3, r⟩
      rw [r2] at z
      cases z
      cases r3
    · obtain ⟨m0, ob, b1, b2, b3, b4, b5, b6⟩ := bm
      refine ⟨m0, ob, b1, b2, fun q => ?_, fun q => ?_, hidT_get b3 (free b3 (fun _ _ z => by rw [b6] at z; cases z) fun z => by rw [b6] at z; cases z), b4, b5, b6⟩
      · obtain ⟨o, es, ep, e, d, _⟩ := ns
        rw [q, e] at b3
        cases b3
        rw [d] at b6
        cases b6
      · rw [q, t2] at b3
        cases b3
        cases b6
    · intro q
      obtain ⟨o, es, ep, e, d, _⟩ := ns
      rw [q, t2] at e
      cases e
      cases d
  have e0 : Env0 P w K mg (hidT s₁.heap H) callerA [] s₁ H :=
    { frames := rfl, mod := module, bs := fun b o q => of_hidT q, bsz := Nat.le_of_eq (hidT_size _ _), funs := trivial,
      frf := fun b hb => absurd hb List.not_mem_nil, hok := ok, bare := .of_eq noGens }
  have ran := (F _ inB (nsH ns) known).run callerA [] s₁ H ⟨[.ref a], []⟩ [.ref a] [.ref a] _ _ room rfl e0 (binds s₁ (.ref a)) (.cons rfl .nil) want
  refine codeAny_mono ran ?_
  intro r s' hr
  match r, hr with
  | .error e, hr =>
    obtain ⟨_, _, _, _, _, _, _, _, _, _, _, _, no⟩ := hr
    exact no.elim
  | .ok .next, hr => exact False.elim hr
  | .ok .brk, hr => exact False.elim hr
  | .ok .cont, hr => exact False.elim hr
  | .ok (.ret u), hr =>
    obtain ⟨v, H2, os, bare, un, ok2, rv, rfl⟩ := hr
    obtain rfl : u = Value.bool true := rv
    have same : ∀ b o, s₁.heap.get? b = some o → s'.heap.get? b = some o ∨ ∃ y ∈ xs, b = tabP K y ∧ H b = some (.tbl #[]) := by
      intro b o q
      rcases only b with z | ⟨_, _, ob, l, z⟩ | z
      · exact .inl (un.keep b o q z List.not_mem_nil List.not_mem_nil)
      · have was := (ok b _ z).1
        have is := (ok2 b _ (un.frzs b ob _ z)).1
        rw [was] at q
        exact .inl ((Option.some.inj q) ▸ is)
      · exact .inr z
    have grown : ∀ y b, b = tabP K y → H b = some (.tbl #[]) → ∃ more : Array Value, s'.heap.get? b = some { cls := .none, data := .fields (#[] ++ more) } := by
      intro y b _ z
      obtain ⟨more, z2⟩ := un.tbls b #[] z
      exact ⟨more, ok2 b _ z2⟩
    refine ⟨rfl, ⟨fun b o q => ?_, fun b o q => ?_⟩, os, bare⟩
    · rcases same b o q with z | ⟨y, hy, eb, z⟩
      · exact .inl z
      · obtain ⟨more, z2⟩ := grown y b eb z
        obtain ⟨c, _, hd, t2, _⟩ := tabs y hy
        subst eb
        rw [t2] at q
        cases q
        exact .inr (.inl ⟨(hd.tab t2).isCodeTable, rfl, #[], more, rfl, z2⟩)
    · rcases same b o q with z | ⟨y, hy, eb, z⟩
      · exact ⟨o, z⟩
      · obtain ⟨more, z2⟩ := grown y b eb z
        exact ⟨_, z2⟩
theorem law_gT {P : Program} {w : World} {K : PySem.W.Frag} {mg mb : Str → Option Value} {k : Nat} {fa a : Addr} {fd : FuncData} {x : Str} {sp : Sp} {s₁ : Shared} {vs : List Value} {ns : List Int} {xs : List Str}
    (inK : K.In s₁.heap) (hns : s₁.heap.Ns mainGlobals mg) (bl : s₁.heap.Ns builtinsNs mb) (bl2 : ∀ x : Str, x ≠ "__name__" → mb x = bootBuiltins x) (lim : s₁.heap.NoLimit) (noGens : s₁.gens = #[])
    (bm : ∃ (bm : Addr) (ob : Obj), mg "__builtins__" = some (.ref bm) ∧ bm ≠ builtinsNs ∧ s₁.heap.get? bm = some ob ∧ ob.cls = .type "module" ∧ ob.dict = some builtinsNs ∧ ob.data = .plain)
    (tabs : ∀ x ∈ xs, TabIs K s₁.heap x) (nd : (xs.map (tabP K)).Nodup)
    (obj : s₁.heap.get? a = some { cls := .type "list", data := .seq vs.toArray }) (hints : IntsAre vs ns) (short : ns.length ≤ sizeLine) (room : Room k callerA)
    (F : ∀ base : Heap, K.In base → base.Ns mainGlobals mg → (∀ x ∈ xs, TabK K mg base x) → FnG P w K mg base k fa fd [x] sp) (binds : ∀ (s : Shared) (u : Value), BindsTo s fd ⟨[u], []⟩ [(x, u)])
    (want : ∀ H : Hp, S (xs.map (AT K) ++ [ASq K a (ns.map V.int)]) H → sp [.ref a] H (fun v _ => v = .bl true) fun _ _ _ => False) :
    codeAny (model P w) callerA (.call (.ref fa) ⟨[.ref a], []⟩) (fun r s' => r = .ok (.ret (.bool true)) ∧ OldK s₁.heap s'.heap ∧ s'.os = s₁.os ∧ AllBare s'.gens) s₁ := by
  have rel : Vals (ns.map V.int) vs := vals_ints hints
  have many : (ns.map V.int).length ≤ sizeLine := by rw [List.length_map]; exact short
  -- the script's part of the heap, then the tables beside it
  have core : ∀ G : Hp, SqL K G a (ns.map V.int) → (∀ b, G b = none ∨ (b = a ∧ K.lookup a = none ∧ G b = some (.frz { cls := .type "list", data := .seq vs.toArray } (.lst (ns.map V.int))))) →
      codeAny (model P w) callerA (.call (.ref fa) ⟨[.ref a], []⟩) (fun r s' => r = .ok (.ret (.bool true)) ∧ OldK s₁.heap s'.heap ∧ s'.os = s₁.os ∧ AllBare s'.gens) s₁ := by
    intro G sq oG
    have far : ∀ x ∈ xs, tabP K x ≠ a := fun x hx q => by
      obtain ⟨c, _, _, z, _⟩ := tabs x hx
      rw [q, obj] at z
      cases z
    have gT : ∀ x ∈ xs, G (tabP K x) = none := fun x hx => (oG _).elim id fun z => absurd z.1 (far x hx)
    have isT : ∀ b, b ∈ xs.map (tabP K) → ∃ x ∈ xs, b = tabP K x := fun b hb => (List.mem_map.mp hb).elim fun x z => ⟨x, z.1, z.2.symm⟩
    have h1 : ∀ b, b ∈ xs.map (tabP K) → (if b ∈ xs.map (tabP K) then some (HO.tbl #[]) else G b) = some (.tbl #[]) := fun b hb => if_pos hb
    have h2 : ∀ b, ¬ b ∈ xs.map (tabP K) → (if b ∈ xs.map (tabP K) then some (HO.tbl #[]) else G b) = G b := fun b hb => if_neg hb
    refine law_fromT (H := fun b => if b ∈ xs.map (tabP K) then some (.tbl #[]) else G b) inK hns bl bl2 lim noGens bm tabs obj ⟨_, .inr ⟨_, rfl⟩⟩ room F binds (want _ ?_) ?_ ?_
    · refine tabs_start nd (fun x hx => h1 _ (List.mem_map.mpr ⟨x, hx, rfl⟩)) ⟨G, S.ofSq sq, fun b o z => ?_, gT⟩
      have nb : ¬ b ∈ xs.map (tabP K) := fun hb => by
        obtain ⟨x, hx, rfl⟩ := isT b hb
        rw [gT x hx] at z
        cases z
      exact (h2 b nb).trans z
    · intro b u z
      by_cases hb : b ∈ xs.map (tabP K)
      · obtain rfl := Option.some.inj ((h1 b hb).symm.trans z)
        obtain ⟨x, hx, rfl⟩ := isT b hb
        obtain ⟨c, _, _, t2, _⟩ := tabs x hx
        exact t2
      · have z := (h2 b hb).symm.trans z
        rcases oG b with w | ⟨rfl, _, w⟩
        · rw [w] at z; cases z
        · rw [w] at z
          cases z
          exact ⟨obj, many, vs, _, rel, obj⟩
    · intro b
      by_cases hb : b ∈ xs.map (tabP K)
      · obtain ⟨x, hx, e⟩ := isT b hb
        exact .inr (.inr ⟨x, hx, e, h1 b hb⟩)
      · rcases oG b with w | ⟨e, no, w⟩
        · exact .inl ((h2 b hb).trans w)
        · exact .inr (.inl ⟨e, no, _, _, (h2 b hb).trans w⟩)
  match known : K.lookup a with
  | some o =>
    have same : o = ({ cls := .type "list", data := .seq vs.toArray } : Obj) := Option.some.inj ((inK a o known).symm.trans obj)
    subst same
    exact core (fun _ => none) (.inr ⟨_, vs.toArray, _, known, rfl, rfl, rfl, by rw [List.size_toArray, hints.length]; exact short, by simpa using rel⟩) fun _ => .inl rfl
  | none =>
    have at_ : upd (fun _ => none) a (.frz { cls := .type "list", data := .seq vs.toArray } (.lst (ns.map V.int))) a = _ := upd_same
    refine core _ (.inl (.inr ⟨_, at_⟩)) fun b => ?_
    by_cases q : b = a
    · subst q
      exact .inr ⟨rfl, known, at_⟩
    · exact .inl (by rw [upd_ne q])
/-- the law's walk, from its promise, where the defs xs make lambdas -/
theorem walk_gT {l : PySem.W.OpenLaw} {n k : Nat} {q : Program} {loose : List Str} {XP : (Str → Option Value) → Heap → Prop} {YP : World → Heap → Prop} {d : DefRec} {K : Params → PySem.W.Frag} {sp : PySem.W.Frag → Sp} {x : Str} (xs : List Str)
    (hn : l.most = some n) (hn2 : n ≤ sizeLine) (hdf : d.params.defaults = []) (room : Room k callerA) (recs : (xs.all fun x => (recsOf q).any fun e => e.name == x) = true)
    (hY : ∀ (w : World) (h : Heap), YP w h → (K w.params).In h)
    (F : ∀ (w : World) (mg : Str → Option Value) (fa : Addr) (h : Heap), (K w.params).In h → h.Ns mainGlobals mg → mg d.name = some (.ref fa) →
      (∀ x ∈ xs, ∃ c, PySem.W.tabIn (K w.params) x = some (c, tabP (K w.params) x) ∧ (K w.params).lookup (tabP (K w.params) x) = none) ∧ (xs.map (tabP (K w.params))).Nodup ∧
      ∃ fd : FuncData, (∀ (s : Shared) (u : Value), BindsTo s fd ⟨[u], []⟩ [(x, u)]) ∧
        ∀ base : Heap, (K w.params).In base → base.Ns mainGlobals mg → (∀ x ∈ xs, TabK (K w.params) mg base x) → FnG l.prog w (K w.params) mg base k fa fd [x] (sp (K w.params)))
    (want : ∀ (K : PySem.W.Frag) (H : Hp) (a : Addr) (ns : List Int), ns.length ≤ n → S (xs.map (AT K) ++ [ASq K a (ns.map V.int)]) H → sp K [.ref a] H (fun v _ => v = .bl true) fun _ _ _ => False) :
    PySem.W.WalkO q loose XP YP l.row.toRowW d [] (fun f vs => PySem.call f vs) := by
  refine Att.attach_callB hn hdf ?_
  intro w s₀ s₁ mg mb fa o pm cd doc a vs ns G Y ho hd hcd hmg obj hints short hbits noGens
  have inK := hY w _ Y
  obtain ⟨tabs, nd, fd, binds, FF⟩ := F w mg fa _ inK G.T.g hmg
  refine law_gT inK G.T.g G.T.b G.T.builtins G.T.nolimit noGens G.T.bmain (fun y hy => ?_) nd obj hints (Nat.le_trans short hn2) room FF binds fun H hS => want _ H a ns short hS
  obtain ⟨c, t1, t2⟩ := tabs y hy
  obtain ⟨dL, hm, he⟩ := List.any_eq_true.mp (List.all_eq_true.mp recs y hy)
  have some_ : ((recsOf q).find? (fun e => e.name == y)).isSome = true := by
    rw [List.find?_isSome]
    exact ⟨dL, hm, he⟩
  obtain ⟨dF, hf⟩ := Option.isSome_iff_exists.mp some_
  obtain ⟨z1, z2⟩ := PySem.W.tab_of G.T inK hf t1
  exact ⟨c, t1, z1, z2, t2⟩
end Z
/-! comprehensions with a filter -/
namespace Z
open PySem PySem.Spec PyProof.Rows L2
section
variable {K : PySem.W.Frag} {a : Addr} {g : TG} {tt : TT} {te : TE} {σ : L2.St} {H : Hp} {Q : VK} {L : List Asn}
/-- a comprehension over a list, each item kept as fs says -/
theorem lcFS {xs : List V} {fs : List (Option V)} {vs : List Nat} (s : S L H) (hq : ∀ H', S L H' → SqL K H' a xs) (hn : fs.length = xs.length) (hz : fs.length < 16777216)
    (hs : ∀ (D : Addr) (i : Nat) (x : V) (fo : Option V) (acc : List V) H1 (N : Hp → Prop), xs[i]? = some x → fs[i]? = some fo → S (pts D (.lst acc) :: L) H1 → acc.length < 16777216 → (∀ y, fo = some y → ∀ H', S (pts D (.lst (acc ++ [y])) :: L) H' → N H') → (fo = none → ∀ H', S (pts D (.lst acc) :: L) H' → N H') →
      g x (wipe σ vs) H1 fun σ2 H3 => wipe σ2 vs = wipe σ vs ∧ tt σ2 H3 (zPut te D N σ2))
    (hd : ∀ D H1, S (pts D (.lst (fs.filterMap id)) :: L) H1 → Q (.ref D) H1) : zLc g tt te vs σ Q (Itl K a) H := by
  have short : ∀ i, ((fs.take i).filterMap id).length ≤ fs.length := fun i => Nat.le_trans (List.length_filterMap_le _ _) (by rw [List.length_take]; omega)
  refine lcW walk_list (fun D i H' => S (pts D (.lst ((fs.take i).filterMap id)) :: L) H') (fun D H1 hD e h => s.new hD e h) (fun D i H' _ m => hq H' m.drop) ?_ ?_
  · rintro D i x H1 _ hD hi m ⟨rfl, hx⟩
    have hf : ∃ fo, fs[i]? = some fo := ⟨fs[i]'(by omega), List.getElem?_eq_getElem _⟩
    obtain ⟨fo, hf⟩ := hf
    refine hs D i x fo _ _ _ hx hf m (by have := short i; omega) (fun y hy H' s2 => ?_) fun hy H' s2 => ?_
    · show S (pts D (.lst ((fs.take (i + 1)).filterMap id)) :: L) H'
      rw [List.take_succ, hf, hy, List.filterMap_append]
      exact s2
    · show S (pts D (.lst ((fs.take (i + 1)).filterMap id)) :: L) H'
      rw [List.take_succ, hf, hy, List.filterMap_append, show (some (none : Option V)).toList.filterMap id = ([] : List V) from rfl, List.append_nil]
      exact s2
  · intro D H1 hD m
    rw [← hn, List.take_length] at m
    exact hd D H1 m
end
end Z
/-! H, part P: the def that tells of a deed -/
namespace Z
open PySem PySem.Spec PyProof.Rows L2 L2H HotX
theorem RoomH.of_mark {k : Nat} {A : Around} {v : Option Value} (r : Room k A) : RoomH k (A.mark v) := ⟨r.dp, r.un⟩
theorem takesN0 {X : Cx} : L2N.Takes X (fun _ _ _ _ => False) := fun _ _ x => by
  obtain ⟨_, _, _, _, _, _, _, _, _, _, _, _, _, _, _, _, z⟩ := x
  exact z.elim
theorem takes_len {X : Cx} {W : WX} (tk : L2N.Takes X W) : L2N.Takes X (fun cls d σ H => σ.length = X.N.length → W cls d σ H) := fun u s' ⟨a, B, sI, pins, σ, H, cls, d, e, I, nb, up, sky, na, os, ag, w⟩ =>
  tk u s' ⟨a, B, sI, pins, σ, H, cls, d, e, I, nb, up, sky, na, os, ag, w I.len⟩
theorem deed_wk {P : Program} {w : World} {K : PySem.W.Frag} {mg : Str → Option Value} {base : Heap} {N : List Str} {x : Str} {sg : Scope} {g : Addr} {cd : Value} {A : Around} {outer : List Env} {s : Shared} {H : Hp} {a : Str} {f c' : Addr} {q : Str} {tl : XK → Hp → VK → Prop}
    (act : Deed P w K mg base N x sg g cd A outer s H a f c' q tl) {W : WX} {pn : List (Addr × Obj)} {xe : Value → Shared → Prop} {p1 p2 : Pos} (tk : L2N.Takes ((cx P w K mg base N x sg g cd A outer s H (fun _ _ _ => False)).tr pn xe) W) :
    PE ((cx P w K mg base N x sg g cd A outer s H (fun _ _ _ => False)).tr pn xe) (.Call (.Name a p1) [] [] p2)
      (fun σZ HZ Q => σZ[0]? = some (some (.ref f)) ∧ HZ c' = some (LamX.CodeO c' q) ∧ ∃ (E1 : XK) (Q1 : VK), (∀ cls d σ' H', σ'.length = N.length → E1 cls d H' → W cls d σ' H') ∧ (∀ v H', Q1 v H' → Q v H') ∧ tl E1 HZ Q1) := by
  refine ⟨fun pins s σ H Q I h => ?_⟩
  obtain ⟨h1, h2, E1, Q1, h3, h4, h5⟩ := h
  refine wpAny_mono ((act _ pn xe E1 p1 p2 (takes_len tk) fun cls d σ' H' e hl => h3 cls d σ' H' hl e).run pins s σ H Q1 I ⟨h1, h2, h5⟩) ?_ fun _ _ z => z
  rintro u s1 ⟨v, H1, I1, r, q⟩
  exact ⟨v, H1, I1, r, h4 _ _ q⟩
/-- which class: asked in the except suite -/
def sqWhich (R : List Ref) (a : Addr) (cls : Value) (d : Option Addr) (vs : List V) (H : Hp) (Q : VK) : Prop := vs = [.ref a] ∧ ∃ (i : Nat) (r : Ref), R[i]? = some r ∧ cls = .ref r.C ∧ Bears H d ∧ ∀ H', Ex H H' → Q (T r.nm) H'
theorem pe_which {X : Cx} {R : List Ref} {a : Addr} {oe : Obj} {cls : Value} {d : Option Addr} {pn : List (Addr × Obj)} {k : Nat} {x : Str} {p1 pos : Pos} {e : Expr} {es : List Expr} {t : TA} (D : DefW X.prog X.w X.K X.mg X.base k x (spWhich R)) (room : Room k X.A) (hz : L2N.Zn cls d oe) (hf : ∃ vs, oe.data = .fields vs)
    (hg : Gl (X.suite a ((a, oe) :: pn)) x) (ha : PA (X.suite a ((a, oe) :: pn)) (e :: es) t) (hdb : (x == ("__debug__" : Str)) = false := by decide)
    (he : starEach (e :: es) X.env = (false, eval e X.env) :: starEach es X.env := by rfl) (hpl : (backTo pos (starEach es X.env)).any (·.1) = false := by rfl) :
    PE (X.suite a ((a, oe) :: pn)) (.Call (.Name x p1) (e :: es) [] pos) (tCW (sqWhich R a cls d) t) :=
  pe_fW (X := X.suite a ((a, oe) :: pn)) (p := (a, oe)) D (fun vs H Q h => by
    obtain ⟨rfl, i, r, hi, rfl, hb, q⟩ := h
    exact ⟨i, r, d, rfl, hi, hz.zc, hf, hb, q⟩) (RoomH.of_mark room) ⟨rfl, hf.elim fun vs z => ⟨vs, z, hz.2.2 vs z⟩⟩ (.head _) hg ha hdb he hpl
theorem _root_.L2H.RoomH.units {k : Nat} {A : Around} (r : RoomH k A) : A.units + 64 < cLine := by have := r.un; omega
section
variable {X : Cx} {K : PySem.W.Frag} {p : Addr × Obj}
theorem kh_isi {a D : Addr} {oe : Obj} {d : Option Addr} (C : ExcC X.K D) (m : (a, oe) ∈ X.pn) (hz : Zc (.ref D) d oe) (hf : ∃ vs, oe.data = .fields vs) (e : X.K = K := by rfl) : CallR X (.builtin "isinstance") (rIsP K D a d) := e ▸ z_isP C m hz hf
theorem kh_xf {a : Addr} {oe : Obj} {cls : Value} {d : Option Addr} {pn : List (Addr × Obj)} {e : Expr} {te : TE} {pos : Pos} {n : Str} (hz : Zc cls d oe) (hf : ∃ vs, oe.data = .fields vs) (he : PE (X.suite a ((a, oe) :: pn)) e te) (hb : attributeBase e n X.env (eval e X.env) = eval e X.env := by rfl) (hK : X.K = K := by rfl) :
    PE (X.suite a ((a, oe) :: pn)) (.Attribute e n pos) (tXfN K a cls d n te) := hK ▸ pe_xfN hz hf he hb
theorem kh_try {body : List Stmt} {h₀ : ExceptHandler} {hds : List ExceptHandler} {l : List (List Value × Nat × (Addr → Value → Option Addr → TS))} {pos : Pos} {tb : WX → TS} {Wout : WX} (hs : X.stack = X.env :: X.outer) (hf : X.env.frame = some X.env.locals) (hN : X.N.Nodup) (tk : L2N.Takes X Wout)
    (hb : ∀ (W : WX) (pn : List (Addr × Obj)) (xe : Value → Shared → Prop), L2N.Takes (X.tr pn xe) W → PassesOwn (model X.prog X.w) X.A X.env xe → PSs (X.tr pn xe) body (tb W))
    (hh : HdsT X (h₀ :: hds) l) (e : X.K = K := by rfl) : PS X (.Try body (h₀ :: hds) [] [] pos) (fun D σ H => tb (wTup K Wout D l) D σ H) := e ▸ ps_tryT hs hf hN tk hb hh
theorem kh_tup {es : List Expr} {k n : Nat} {t : TGs} {pos : Pos} (hot : Hot1 X.A p) (h : PGs X es t) (hn : (assignEach es X.env).length = n := by rfl) (hst : (assignEach es X.env).findIdx? (·.1) = none := by rfl) (e : X.K = K := by rfl) :
    PGP X p (.Tuple es k pos) (gTup K n t) := e ▸ pg_tupH hot h hn hst
theorem kh_setLc {i : Nat} {y : Str} {py : Pos} {elt tg iter : Expr} {ifs : List Expr} {scope : Scope} {own : List (Str × Nat)} {pos spos : Pos} {tl : TE} {g : TG} {tt : TT} {te : TE} (hot : Hot1 X.A p) (hp : p ∈ X.pn) (hN : X.N.Nodup) (hy : X.N[i]? = some y) (hyl : X.env.scope.names.lookup y = some .local)
    (hsw : swapsWith (.ListComp elt [⟨tg, iter, ifs, 0⟩] scope pos) (some (.Name y py)) spos.line X.env = pure true) (hi : PE X iter tl) (ok : BlkOk X.N X.env.scope scope own)
    (hg : ∀ (s : Shared) (H : Hp) (C : Addr) (cl : List (Str × Addr)) (fp : List Addr), PGP (X.blk s H scope (compEnvC scope cl C X.env) fp) p tg g) (ht : ∀ (s : Shared) (H : Hp) (C : Addr) (cl : List (Str × Addr)) (fp : List Addr), PTs (X.blk s H scope (compEnvC scope cl C X.env) fp) ifs tt)
    (he : ∀ (s : Shared) (H : Hp) (C : Addr) (cl : List (Str × Addr)) (fp : List Addr), PE (X.blk s H scope (compEnvC scope cl C X.env) fp) elt te)
    (hgo : ∀ {M : Model} {A : Around} {E : Value → Shared → Prop} {s : Shared} {it : Addr} {u : Value} {o : Obj} {vs : Array Value} {R : Unit → Shared → Prop}, s.heap.get? it = some o → o.cls = .type "list_iterator" → o.data = .fields vs → R () s → wpAny M A (letOwnedTupleGo tg (.ref it) u) R E s)
    (hs : ∀ x, foldedSetIterable iter X.env x = pure x := by intro _; rfl) (e : X.K = K := by rfl) :
    PS X (.Assign [.Name y py] (.ListComp elt [⟨tg, iter, ifs, 0⟩] scope pos) spos) (tAsg (tLc (iList K tl) g tt te (own.map (·.2))) (gName i)) := e ▸ ps_setLcW hot hp hN hy hyl hsw hi ok hg ht he hgo hs
end
/-! ### steps -/
section
variable {K : PySem.W.Frag} {D a C : Addr} {d : Option Addr} {b : Bool} {H : Hp} {Q : VK} {t : String}
theorem isPr_ (h : PySem.W.kitOne K (.ref D) (.ref C) = some b) (hb : Bears H d) (q : Q (.bl b) H) : rIsP K D a d [.ref a, .ref C] H Q := ⟨_, _, b, rfl, fun u e => by cases e; rfl, h, hb, q⟩
theorem isPt_ (h : PySem.W.kitOne K (.ref D) (.type t) = some b) (hb : Bears H d) (q : Q (.bl b) H) : rIsP K D a d [.ref a, .ty t] H Q := ⟨_, _, b, rfl, fun u e => by cases e; rfl, h, hb, q⟩
theorem Bears.up {H' : Hp} (b : Bears H d) (e : Ex H H') : Bears H' d := fun dd z => (b dd z).elim fun fs w => ⟨fs, e _ _ w⟩
end
section
variable {K : PySem.W.Frag} {a : Addr} {g : TG} {tt : TT} {te : TE} {σ : L2.St} {H : Hp} {Q : VK} {L : List Asn}
theorem cw_ {sq : List V → Hp → VK → Prop} {t : TA} (h : t σ H fun vs H1 => sq vs H1 Q) : tCW sq t σ H Q := h
theorem which_ {R : List Ref} {a C : Addr} {d : Option Addr} {i : Nat} {r : Ref} (hi : R[i]? = some r) (hc : r.C = C) (hb : Bears H d) (k : ∀ H', Ex H H' → Q (T r.nm) H') : sqWhich R a (.ref C) d [.ref a] H Q := ⟨rfl, i, r, hi, by rw [hc], hb, k⟩
theorem xf_ {a C : Addr} {d : Option Addr} {n : Str} {j : Nat} {v : V} (xf : XfC K C) (no : PySem.W.findIn K (.ref C) n = some none) (hv : σ[j]? = some (some (.ref a))) (b : Bore (some n) d H v) (q : Q v H) : tXfN K a (.ref C) d n (tVar j) σ H Q := by
  obtain ⟨dd, e, w⟩ := b
  refine ⟨C, xf, no, ⟨.ref a, hv, rfl, rfl, dd, _, v, e, w, ?_, q⟩⟩
  rw [List.lookup_cons]
  simp
theorem exm_n {cls : Value} : PySem.W.exmAny K cls [] = some false := rfl
theorem exm_c {cls c : Value} {r : List Value} {b1 b2 : Bool} (h1 : PySem.W.exmOne K cls c = some b1) (h2 : PySem.W.exmAny K cls r = some b2) : PySem.W.exmAny K cls (c :: r) = some (b1 || b2) := by
  unfold PySem.W.exmAny
  rw [h1, h2]
/-- what an error bears, a part of the heap -/
def ABr (d : Option Addr) : Asn := fun h => Bears h d
theorem S.alone {A : Asn} {H : Hp} (h : A H) : S [A] H := ⟨H, fun _ => none, h, trivial, fun _ _ z => z, (fun _ _ z => nomatch z), fun _ _ _ _ => rfl⟩
/-- all that stood -/
def AEx (H0 : Hp) : Asn := fun h => Ex H0 h
theorem S.aex {H0 : Hp} : S [AEx H0] H0 := S.alone (A := AEx H0) (show Ex H0 H0 from fun _ _ z => z)
theorem ex_S {H0 : Hp} {M : List Asn} (s : S L H) (p : Pick (AEx H0) L M) : Ex H0 H := (s.of p).elim fun _ z => Ex.trans z.1 z.2
theorem br_S {d : Option Addr} {M : List Asn} (s : S L H) (p : Pick (ABr d) L M) : Bears H d := (s.of p).elim fun _ z => z.1.up z.2
theorem zand_bb {t2 : TT} {R : Bool → Hp → Prop} {k : Bool} (h1 : k = true → t2 σ H R) (h2 : k = false → R false H) : zAnd t2 σ R k H := by
  unfold zAnd
  cases k with
  | true => exact h1 rfl
  | false => exact h2 rfl
end
theorem rp_pairI {l : List Nat} {i : Int} (h : (l.all fun c => decide (c < 1000)) = true) (hl : l.length ≤ 20) (h1 : -18446744073709551616 < i) (h2 : i < 18446744073709551616) : Rp (.tuple [Dt l, .int i]) 500 2 := by
  refine (Rp.tup (n := 202) (k := 1) fun d hd => ?_).more (by simp) (by decide)
  rcases List.mem_cons.mp hd with z | z
  · rw [z]
    exact (Rp.str fun c hc => of_decide_eq_true (List.all_eq_true.mp h c hc)).more (by omega) (by decide)
  · rw [List.mem_singleton.mp z]
    exact (Rp.int h1 h2).more (by decide) (by decide)
end Z
/-! H, part U: the law's walk over the head by one run, where defs make lambdas -/
namespace Z
open PySem PySem.Spec PyProof.Rows L2
theorem walk_hT {l : PySem.W.OpenLaw} {n k : Nat} {q : Program} {loose : List Str} {XP : (Str → Option Value) → Heap → Prop} {YP : World → Heap → Prop} {d : DefRec} {sp : PySem.W.Frag → Sp} {x : Str} (xs : List Str)
    (hn : l.most = some n) (hn2 : n ≤ sizeLine) (hdf : d.params.defaults = []) (room : Room k callerA) (recs : (xs.all fun x => (recsOf q).any fun e => e.name == x) = true)
    (F : ∀ (w : World) (mg : Str → Option Value) (fa : Addr) (h : Heap), YP w h → h.Ns mainGlobals mg → mg d.name = some (.ref fa) →
      ∃ K : PySem.W.Frag, K.In h ∧ (∀ x ∈ xs, ∃ c, PySem.W.tabIn K x = some (c, tabP K x) ∧ K.lookup (tabP K x) = none) ∧ (xs.map (tabP K)).Nodup ∧
      ∃ fd : FuncData, (∀ (s : Shared) (u : Value), BindsTo s fd ⟨[u], []⟩ [(x, u)]) ∧
        ∀ base : Heap, K.In base → base.Ns mainGlobals mg → (∀ x ∈ xs, TabK K mg base x) → FnG l.prog w K mg base k fa fd [x] (sp K))
    (want : ∀ (K : PySem.W.Frag) (H : Hp) (a : Addr) (ns : List Int), ns.length ≤ n → S (xs.map (AT K) ++ [ASq K a (ns.map V.int)]) H → sp K [.ref a] H (fun v _ => v = .bl true) fun _ _ _ => False) :
    PySem.W.WalkO q loose XP YP l.row.toRowW d [] (fun f vs => PySem.call f vs) := by
  refine Att.attach_callB hn hdf ?_
  intro w s₀ s₁ mg mb fa o pm cd doc a vs ns G Y ho hd hcd hmg obj hints short hbits noGens
  obtain ⟨K, inK, tabs, nd, fd, binds, FF⟩ := F w mg fa _ Y G.T.g hmg
  refine law_gT inK G.T.g G.T.b G.T.builtins G.T.nolimit noGens G.T.bmain (fun y hy => ?_) nd obj hints (Nat.le_trans short hn2) room FF binds fun H hS => want _ H a ns short hS
  obtain ⟨c, t1, t2⟩ := tabs y hy
  obtain ⟨dL, hm, he⟩ := List.any_eq_true.mp (List.all_eq_true.mp recs y hy)
  have some_ : ((recsOf q).find? (fun e => e.name == y)).isSome = true := by
    rw [List.find?_isSome]
    exact ⟨dL, hm, he⟩
  obtain ⟨dF, hf⟩ := Option.isSome_iff_exists.mp some_
  obtain ⟨z1, z2⟩ := PySem.W.tab_of G.T inK hf t1
  exact ⟨c, t1, z1, z2, t2⟩
end Z
/-! the urn; the mathematics of codes -/
namespace Z
open PySem L2
/-- an urn of which at most n draws were made -/
def Urn (H : Hp) (u : Addr) (n : Nat) : Prop := ∃ g c k : Int, H u = some (.lst [.int g, .int c, .int k]) ∧ 0 ≤ g ∧ 0 ≤ c ∧ c < 1152921504606846976 ∧ 0 ≤ k ∧ k ≤ n
theorem Urn.ex {H H' : Hp} {u : Addr} {n : Nat} (e : Ex H H') (h : Urn H u n) : Urn H' u n := by
  obtain ⟨g, c, k, hu, r⟩ := h
  exact ⟨g, c, k, e _ _ hu, r⟩
theorem Urn.but {H H' : Hp} {u l : Addr} {n : Nat} (e : But l H H') (ne : u ≠ l) (h : Urn H u n) : Urn H' u n := by
  obtain ⟨g, c, k, hu, r⟩ := h
  exact ⟨g, c, k, e _ _ ne hu, r⟩
theorem Urn.mono {H : Hp} {u : Addr} {n m : Nat} (h : Urn H u n) (l : n ≤ m) : Urn H u m := by
  obtain ⟨g, c, k, hu, h1, h2, h3, h4, h5⟩ := h
  exact ⟨g, c, k, hu, h1, h2, h3, h4, by omega⟩
theorem Urn.ne_new {H : Hp} {u p : Addr} {n : Nat} (hp : H p = none) (h : Urn H u n) : p ≠ u := by
  obtain ⟨g, c, k, hu, _⟩ := h
  exact Ne.symm (ne_of_none hu hp)
/-- bits as signs -/
def Bit (c : Nat) : Prop := c = 48 ∨ c = 49
def Bits (l : List Nat) : Prop := ∀ c ∈ l, Bit c
theorem bits_of {l : List Nat} (h : (l.all fun c => c == 48 || c == 49) = true) : Bits l := fun c hc => by
  have := List.all_eq_true.mp h c hc
  simpa [Bit] using this
theorem Bits.nil : Bits [] := fun _ h => nomatch h
theorem Bits.app {a b : List Nat} (h1 : Bits a) (h2 : Bits b) : Bits (a ++ b) := fun c h => (List.mem_append.mp h).elim (h1 c) (h2 c)
theorem Bits.one {c : Nat} (h : Bit c) : Bits [c] := fun d hd => by
  rw [List.mem_singleton.mp hd]; exact h
theorem Bits.rep {a : List Nat} (h : Bits a) (n : Nat) : Bits (rep a n) := by
  intro c hc
  unfold Z.rep at hc
  obtain ⟨l, hl, hcl⟩ := List.mem_flatten.mp hc
  rw [(List.mem_replicate.mp hl).2] at hcl
  exact h c hcl
theorem Bits.take {a : List Nat} (h : Bits a) (n : Nat) : Bits (a.take n) := fun c hc => h c (List.mem_of_mem_take hc)
theorem Bits.drop {a : List Nat} (h : Bits a) (n : Nat) : Bits (a.drop n) := fun c hc => h c (List.mem_of_mem_drop hc)
theorem Bits.cut {a : List Nat} (h : Bits a) (lo hi : Option Int) : Bits (cut a lo hi) := (h.drop _).take _
theorem Bits.lt {a : List Nat} (h : Bits a) : ∀ c ∈ a, c < 1000 := fun c hc => by
  rcases h c hc with z | z <;> omega
/-- where a slice's end lies -/
theorem cut_to (l : List Nat) (n : Int) (h : 0 ≤ n) : cut l none (some n) = l.take n.toNat := by
  unfold Z.cut
  have e : n = ((n.toNat : Nat) : Int) := by omega
  rw [HT.sIx_none, e, HT.sIx_nat, List.drop_zero, Nat.sub_zero]
  simp only [Int.toNat_natCast]
  rw [List.take_eq_take_iff]
  omega
theorem cut_from (l : List Nat) (n : Int) (h : 0 ≤ n) : cut l (some n) none = l.drop n.toNat := by
  unfold Z.cut
  have e : n = ((n.toNat : Nat) : Int) := by omega
  rw [HT.sIx_none, e, HT.sIx_nat]
  simp only [Int.toNat_natCast]
  by_cases g : n.toNat ≤ l.length
  · rw [Nat.min_eq_left g, List.take_of_length_le (by rw [List.length_drop]; omega)]
  · rw [Nat.min_eq_right (by omega), List.drop_eq_nil_of_le (Nat.le_refl _), List.drop_eq_nil_of_le (by omega)]
    simp
theorem cutV_to (l : List V) (n : Int) (h : 0 ≤ n) : cutV l none (some n) = l.take n.toNat := by
  unfold cutV
  have e : n = ((n.toNat : Nat) : Int) := by omega
  rw [HT.sIx_none, e, HT.sIx_nat, List.drop_zero, Nat.sub_zero]
  simp only [Int.toNat_natCast]
  rw [List.take_eq_take_iff]
  omega
theorem joinT_nil : ∀ ys : List (List Nat), joinT [] ys = ys.flatten
  | [] => rfl
  | [x] => by simp [joinT]
  | x :: y :: r => by
    show x ++ [] ++ joinT [] (y :: r) = _
    rw [joinT_nil (y :: r)]
    simp
end Z
/-! ### codes -/
namespace My
open PySem L2 Z
/-- a number's binary figures -/
def figs (n : Nat) : List Nat := if n = 0 then [] else figs (n / 2) ++ [48 + n % 2]
theorem figs_zero : figs 0 = [] := by unfold figs; simp
theorem figs_step {n : Nat} (h : 0 < n) : figs n = figs (n / 2) ++ [48 + n % 2] := by
  conv => lhs; unfold figs
  rw [if_neg (by omega)]
theorem figs_len : ∀ {k n : Nat}, n < 2 ^ k → (figs n).length ≤ k
  | 0, n, h => by
    have : n = 0 := by omega
    subst this
    rw [figs_zero]; simp
  | k + 1, n, h => by
    by_cases z : n = 0
    · subst z; rw [figs_zero]; simp
    · rw [figs_step (by omega), List.length_append]
      have := figs_len (k := k) (n := n / 2) (by omega)
      simp; omega
theorem figs_pos {n : Nat} (h : 0 < n) : 0 < (figs n).length := by
  rw [figs_step h]; simp
theorem figs_bits : ∀ {k n : Nat}, n < k → Bits (figs n)
  | 0, n, h => absurd h (Nat.not_lt_zero _)
  | k + 1, n, h => by
    by_cases z : n = 0
    · subst z; rw [figs_zero]; exact Bits.nil
    · rw [figs_step (by omega)]
      exact (figs_bits (k := k) (n := n / 2) (by omega)).app (Bits.one (by unfold Bit; omega))
/-- a number, written so that it ends by itself -/
def ncode (n : Nat) : List Nat := rep [48] ((figs n).length - 1) ++ figs n
theorem ncode_len {k n : Nat} (h : n < 2 ^ k) : (ncode n).length ≤ 2 * k := by
  unfold ncode
  have := figs_len h
  rw [List.length_append, rep_len]
  simp; omega
theorem ncode_bits (n : Nat) : Bits (ncode n) := (Bits.rep (Bits.one (.inl rfl)) _).app (figs_bits (Nat.lt_succ_self n))
/-- the last number is one more -/
def bump (a : List Nat) : List Nat := a.set (a.length - 1) (a.getD (a.length - 1) 0 + 1)
def rs (s : List Nat × List Nat) (c : Nat) : List Nat × List Nat := if [c] = s.2 then (bump s.1, [c]) else (s.1 ++ [1], [c])
/-- how many bits each run has, and the last sign -/
def rsAll (l : List Nat) : List Nat × List Nat := l.foldl rs ([], [])
def runs (l : List Nat) : List Nat := (rsAll l).1
theorem rsAll_snoc (l : List Nat) (c : Nat) : rsAll (l ++ [c]) = rs (rsAll l) c := by
  unfold rsAll; rw [List.foldl_append]; rfl
theorem rsAll_take {l : List Nat} {i c : Nat} (h : l[i]? = some c) : rsAll (l.take (i + 1)) = rs (rsAll (l.take i)) c := by
  rw [List.take_succ, h]
  exact rsAll_snoc _ _
theorem rs_two (s : List Nat × List Nat) (c : Nat) : (rs s c).2 = [c] := by
  unfold rs; split <;> rfl
theorem bump_len (a : List Nat) : (bump a).length = a.length := by unfold bump; rw [List.length_set]
theorem rsAll_last : ∀ (l : List Nat), (rsAll l).2 = l.drop (l.length - 1) := by
  intro l
  rcases List.eq_nil_or_concat l with rfl | ⟨a, c, rfl⟩
  · rfl
  · rw [List.concat_eq_append, rsAll_snoc, rs_two]; simp
theorem rsAll_len (l : List Nat) : ∀ (i : Nat), i ≤ l.length → (rsAll (l.take i)).1.length ≤ i ∧ (0 < i → 0 < (rsAll (l.take i)).1.length)
  | 0, _ => by simp [rsAll]
  | i + 1, h => by
    have ih := rsAll_len l i (by omega)
    have hc : l[i]? = some l[i] := List.getElem?_eq_getElem (by omega)
    rw [rsAll_take hc]
    unfold rs
    split
    · rename_i e
      have hi : 0 < i := by
        rcases Nat.eq_zero_or_pos i with z | z
        · subst z; simp [rsAll] at e
        · exact z
      simp only [bump_len]
      exact ⟨by omega, fun _ => ih.2 hi⟩
    · simp only [List.length_append, List.length_singleton]
      omega
theorem rsAll_le (l : List Nat) : ∀ (i : Nat), i ≤ l.length → (rsAll (l.take i)).1.sum = i ∧ ∀ n ∈ (rsAll (l.take i)).1, 1 ≤ n
  | 0, _ => by simp [rsAll]
  | i + 1, h => by
    have ih := rsAll_le l i (by omega)
    have hl := rsAll_len l i (by omega)
    have hc : l[i]? = some l[i] := List.getElem?_eq_getElem (by omega)
    rw [rsAll_take hc]
    unfold rs
    split
    · rename_i e
      have hi : 0 < i := by
        rcases Nat.eq_zero_or_pos i with z | z
        · subst z; simp [rsAll] at e
        · exact z
      have hp := hl.2 hi
      generalize (rsAll (l.take i)).1 = a at *
      obtain ⟨b, d, rfl⟩ : ∃ b d, a = b ++ [d] := by
        rcases List.eq_nil_or_concat a with rfl | ⟨b, d, rfl⟩
        · simp at hp
        · exact ⟨b, d, by rw [List.concat_eq_append]⟩
      have eb : bump (b ++ [d]) = b ++ [d + 1] := by
        unfold bump
        simp
      simp only [eb]
      constructor
      · have := ih.1
        simp at this ⊢
        omega
      · intro n hn
        rcases List.mem_append.mp hn with z | z
        · exact ih.2 n (List.mem_append_left _ z)
        · rw [List.mem_singleton.mp z]; omega
    · constructor
      · simp; exact ih.1
      · intro n hn
        rcases List.mem_append.mp hn with z | z
        · exact ih.2 n z
        · rw [List.mem_singleton.mp z]; exact Nat.le_refl _
theorem runs_sum (l : List Nat) : (runs l).sum = l.length := by
  have := (rsAll_le l l.length (Nat.le_refl _)).1
  rw [List.take_length] at this
  exact this
theorem runs_pos (l : List Nat) : ∀ n ∈ runs l, 1 ≤ n := by
  have := (rsAll_le l l.length (Nat.le_refl _)).2
  rw [List.take_length] at this
  exact this
theorem mem_le_sum : ∀ {l : List Nat} {n : Nat}, n ∈ l → n ≤ l.sum
  | a :: r, n, h => by
    rw [List.sum_cons]
    rcases List.mem_cons.mp h with z | z
    · omega
    · have := mem_le_sum z; omega
theorem len_le_sum : ∀ {l : List Nat}, (∀ n ∈ l, 1 ≤ n) → l.length ≤ l.sum
  | [], _ => by simp
  | a :: r, h => by
    have h1 := h a List.mem_cons_self
    have h2 := len_le_sum fun n hn => h n (List.mem_cons_of_mem _ hn)
    rw [List.sum_cons, List.length_cons]
    omega
theorem runs_le (l : List Nat) : ∀ n ∈ runs l, n ≤ l.length := fun n h => runs_sum l ▸ mem_le_sum h
theorem runs_len (l : List Nat) : (runs l).length ≤ l.length := runs_sum l ▸ len_le_sum (runs_pos l)
/-- the code by runs -/
def rcode (l : List Nat) : List Nat := 114 :: l.getD 0 48 :: ((runs l).map ncode).flatten
theorem flat_len {f : Nat → List Nat} {k : Nat} : ∀ {l : List Nat}, (∀ n ∈ l, (f n).length ≤ k) → ((l.map f).flatten).length ≤ l.length * k ∧ (((l.map f).map (·.length)).sum = ((l.map f).flatten).length)
  | [], _ => by simp
  | a :: r, h => by
    have h1 := h a List.mem_cons_self
    have h2 := flat_len fun n hn => h n (List.mem_cons_of_mem _ hn)
    simp only [List.map_cons, List.flatten_cons, List.length_append, List.length_cons, List.sum_cons, Nat.succ_mul]
    omega
theorem rcode_len {l : List Nat} (h : l.length ≤ 1000) : (rcode l).length ≤ 2 + 20 * l.length := by
  unfold rcode
  have hz : ∀ n ∈ runs l, (ncode n).length ≤ 20 := fun n hn => ncode_len (k := 10) (by have := runs_le l n hn; omega)
  have hf := (flat_len hz).1
  have := runs_len l
  have h2 : (runs l).length * 20 ≤ l.length * 20 := Nat.mul_le_mul_right _ this
  simp only [List.length_cons]
  omega
theorem rcode_lt {l : List Nat} (h : Bits l) : ∀ c ∈ rcode l, c < 1000 := by
  intro c hc
  unfold rcode at hc
  rcases List.mem_cons.mp hc with z | z
  · omega
  rcases List.mem_cons.mp z with z | z
  · rw [z, List.getD_eq_getElem?_getD]
    cases e : l[0]? with
    | none => simp
    | some d => exact h.lt d (List.mem_of_getElem? e)
  · obtain ⟨y, hy, hcy⟩ := List.mem_flatten.mp z
    obtain ⟨n, _, rfl⟩ := List.mem_map.mp hy
    exact (ncode_bits n).lt c hcy
end My
/-! heads of blocks -/
namespace My
open PySem L2 Z
/-- two a one, less one a sign -/
def dep (l : List Nat) : Int := 2 * (l.count 49 : Nat) - (l.length : Nat)
def deps (l : List Nat) : List Int := (List.range l.length).map fun i => dep (l.take (i + 1))
theorem deps_len (l : List Nat) : (deps l).length = l.length := by unfold deps; simp
theorem deps_at {l : List Nat} {i : Nat} (h : i < l.length) : (deps l)[i]? = some (dep (l.take (i + 1))) := by
  unfold deps
  rw [List.getElem?_map, List.getElem?_range h]
  rfl
theorem deps_take {l : List Nat} {i : Nat} (h : i < l.length) : (deps l).take (i + 1) = (deps l).take i ++ [dep (l.take (i + 1))] := by
  rw [List.take_succ, deps_at h]; rfl
theorem dep_take {l : List Nat} {i c : Nat} (h : l[i]? = some c) : dep (l.take (i + 1)) = dep (l.take i) + (if c = 49 then 1 else -1) := by
  have hi : i < l.length := (List.getElem?_eq_some_iff.mp h).1
  rw [List.take_succ, h]
  unfold dep
  simp only [Option.toList_some, List.count_append, List.length_append, List.length_singleton, List.count_singleton]
  by_cases e : c = 49
  · rw [if_pos e, e]; simp; omega
  · rw [if_neg e]
    have : (c == 49) = false := by simpa using e
    rw [this]; simp; omega
theorem dep_app (a b : List Nat) : dep (a ++ b) = dep a + dep b := by
  unfold dep
  rw [List.count_append, List.length_append]
  omega
theorem mem_deps {l : List Nat} {m : Int} : m ∈ deps l ↔ ∃ i, i < l.length ∧ m = dep (l.take (i + 1)) := by
  unfold deps
  rw [List.mem_map]
  constructor
  · rintro ⟨i, hi, rfl⟩
    exact ⟨i, List.mem_range.mp hi, rfl⟩
  · rintro ⟨i, hi, rfl⟩
    exact ⟨i, List.mem_range.mpr hi, rfl⟩
theorem mem_deps_app {a b : List Nat} {m : Int} : m ∈ deps (a ++ b) ↔ m ∈ deps a ∨ ∃ k ∈ deps b, m = dep a + k := by
  constructor
  · intro h
    obtain ⟨i, hi, rfl⟩ := mem_deps.mp h
    rw [List.length_append] at hi
    by_cases c : i < a.length
    · exact .inl (mem_deps.mpr ⟨i, c, by rw [List.take_append_of_le_length (by omega)]⟩)
    · refine .inr ⟨dep (b.take (i - a.length + 1)), mem_deps.mpr ⟨i - a.length, by omega, rfl⟩, ?_⟩
      rw [← dep_app, List.take_append, List.take_of_length_le (by omega)]
      have : i + 1 - a.length = i - a.length + 1 := by omega
      rw [this]
  · rintro (h | ⟨k, h, rfl⟩)
    · obtain ⟨i, hi, rfl⟩ := mem_deps.mp h
      exact mem_deps.mpr ⟨i, by rw [List.length_append]; omega, by rw [List.take_append_of_le_length (by omega)]⟩
    · obtain ⟨i, hi, rfl⟩ := mem_deps.mp h
      refine mem_deps.mpr ⟨a.length + i, by rw [List.length_append]; omega, ?_⟩
      have e2 : a.length + i + 1 - a.length = i + 1 := by omega
      have ea : a.take (a.length + i + 1) = a := List.take_of_length_le (by omega)
      rw [List.take_append, ea, e2, dep_app]
structure Least (m : Int) (l : List Nat) : Prop where
  mem : m ∈ deps l
  le : ∀ y ∈ deps l, m ≤ y
theorem Least.eq {m k : Int} {l : List Nat} (h : Least m l) (g : Least k l) : m = k := by
  have h1 := h.le _ g.mem
  have h2 := g.le _ h.mem
  omega
theorem Least.app {m k n : Int} {a b : List Nat} (h : Least m a) (g : Least k b) (f : Least n (a ++ b)) : n = if dep a + k < m then dep a + k else m := by
  have h1 := f.le _ (mem_deps_app.mpr (.inl h.mem))
  have h2 := f.le _ (mem_deps_app.mpr (.inr ⟨k, g.mem, rfl⟩))
  rcases mem_deps_app.mp f.mem with z | ⟨j, hj, rfl⟩
  · have := h.le _ z
    split <;> omega
  · have := g.le _ hj
    split <;> omega
theorem Least.bd {m : Int} {l : List Nat} (h : Least m l) : -(l.length : Int) ≤ m ∧ m ≤ l.length := by
  obtain ⟨i, hi, rfl⟩ := mem_deps.mp h.mem
  unfold dep
  have h1 : (l.take (i + 1)).count 49 ≤ (l.take (i + 1)).length := List.count_le_length
  rw [List.length_take] at h1 ⊢
  omega
/-- each bit the other one -/
def flip (c : Nat) : Nat := 97 - c
theorem Bits.flip {l : List Nat} (h : Bits l) : Bits (l.map flip) := by
  intro c hc
  obtain ⟨d, hd, rfl⟩ := List.mem_map.mp hc
  rcases h d hd with rfl | rfl
  · exact .inr rfl
  · exact .inl rfl
theorem count_flip : ∀ {l : List Nat}, Bits l → (l.map flip).count 49 + l.count 49 = l.length
  | [], _ => rfl
  | c :: r, h => by
    have ih := count_flip (l := r) fun d hd => h d (List.mem_cons_of_mem _ hd)
    rw [List.map_cons, List.count_cons, List.count_cons, List.length_cons]
    rcases h c List.mem_cons_self with rfl | rfl
    · simp [flip]; omega
    · simp [flip]; omega
theorem Bits.rev {l : List Nat} (h : Bits l) : Bits l.reverse := fun c hc => h c (List.mem_reverse.mp hc)
theorem flat_one {f : Nat → Nat} : ∀ l : List Nat, (l.map fun c => [f c]).flatten = l.map f
  | [] => rfl
  | c :: r => by rw [List.map_cons, List.flatten_cons, flat_one r]; rfl
/-- a block's head as data -/
def headD (l : List Nat) (m : Int) : PyData := .tuple [.int (l.length : Nat), .int (l.count 49 : Nat), .int m]
theorem headD_rp {l : List Nat} {m : Int} (h : Least m l) (hl : l.length ≤ 1000) : Rp (headD l m) 85 2 := by
  have h1 := h.bd
  have h2 : l.count 49 ≤ l.length := List.count_le_length
  exact .tup (RpAll.mem (n := 25) (k := 1) (.cons (.int (by omega) (by omega)) (Nat.le_refl _) (Nat.le_refl _) (.cons (.int (by omega) (by omega)) (Nat.le_refl _) (Nat.le_refl _) (.cons (.int (by omega) (by omega)) (Nat.le_refl _) (Nat.le_refl _) .nil))))
end My
/-! codes read -/
namespace My
open PySem L2 Z
theorem figs_bound : ∀ {k n : Nat}, n < k → 0 < n → 2 ^ ((figs n).length - 1) ≤ n ∧ n < 2 ^ (figs n).length
  | 0, n, h, _ => absurd h (Nat.not_lt_zero _)
  | k + 1, n, h, h0 => by
    by_cases z : n / 2 = 0
    · have e : n = 1 := by omega
      subst e
      rw [figs_step (by omega), show (1 : Nat) / 2 = 0 from rfl, figs_zero]
      simp
    · have ih := figs_bound (k := k) (n := n / 2) (by omega) (by omega)
      rw [figs_step h0, List.length_append]
      simp only [List.length_singleton, Nat.add_sub_cancel]
      have hp := figs_pos (n := n / 2) (by omega)
      have e1 : 2 ^ (figs (n / 2)).length = 2 * 2 ^ ((figs (n / 2)).length - 1) := by
        rw [← Nat.pow_succ']; congr 1; omega
      have e2 : 2 ^ ((figs (n / 2)).length + 1) = 2 * 2 ^ (figs (n / 2)).length := Nat.pow_succ'
      omega
theorem figs_at : ∀ {b n : Nat} (k : Nat), n < b → k < (figs n).length → (figs n)[k]? = some (48 + n / 2 ^ ((figs n).length - 1 - k) % 2)
  | 0, n, _, h, _ => absurd h (Nat.not_lt_zero _)
  | b + 1, n, k, h, hk => by
    by_cases z : n = 0
    · subst z; rw [figs_zero] at hk; simp at hk
    · rw [figs_step (by omega)] at hk ⊢
      rw [List.length_append] at hk ⊢
      simp only [List.length_singleton, Nat.add_sub_cancel] at hk ⊢
      by_cases c : k < (figs (n / 2)).length
      · rw [List.getElem?_append_left c, figs_at (b := b) k (by omega) c]
        have e : (figs (n / 2)).length - k = ((figs (n / 2)).length - 1 - k) + 1 := by omega
        rw [e, Nat.pow_succ', Nat.div_div_eq_div_mul]
      · have e : k = (figs (n / 2)).length := by omega
        subst e
        rw [List.getElem?_append_right (Nat.le_refl _)]
        simp
theorem cut_one {t : List Nat} {i c : Nat} (h : t[i]? = some c) : cut t (some (i : Int)) (some ((i : Int) + 1)) = [c] := by
  have hi : i < t.length := (List.getElem?_eq_some_iff.mp h).1
  unfold Z.cut
  have e : ((i : Int) + 1) = ((i + 1 : Nat) : Int) := by omega
  rw [e, HT.sIx_nat, HT.sIx_nat, Nat.min_eq_left (by omega), Nat.min_eq_left (by omega)]
  have e2 : i + 1 - i = 1 := by omega
  rw [e2, List.drop_eq_getElem_cons hi]
  have : t[i] = c := (List.getElem?_eq_some_iff.mp h).2
  rw [this]
  rfl
theorem rep_one (c n : Nat) : rep [c] n = List.replicate n c := by
  unfold rep
  induction n with
  | zero => rfl
  | succ n ih => rw [List.replicate_succ, List.flatten_cons, ih]; rfl
theorem ncode_len2 (n : Nat) : (ncode n).length = (figs n).length - 1 + (figs n).length := by
  unfold ncode
  rw [List.length_append, rep_one, List.length_replicate]
/-- the noughts ahead -/
theorem nc_nought {a r : List Nat} {n j : Nat} (h : j < (figs n).length - 1) : (a ++ (ncode n ++ r))[a.length + j]? = some 48 := by
  rw [List.getElem?_append_right (by omega), Nat.add_sub_cancel_left, List.getElem?_append_left (by rw [ncode_len2]; omega)]
  unfold ncode
  rw [rep_one, List.getElem?_append_left (by rw [List.length_replicate]; exact h), List.getElem?_replicate, if_pos h]
/-- the figures -/
theorem nc_fig {a r : List Nat} {n k : Nat} (h : k < (figs n).length) : (a ++ (ncode n ++ r))[a.length + ((figs n).length - 1 + k)]? = some (48 + n / 2 ^ ((figs n).length - 1 - k) % 2) := by
  rw [List.getElem?_append_right (by omega), Nat.add_sub_cancel_left, List.getElem?_append_left (by rw [ncode_len2]; omega)]
  unfold ncode
  rw [rep_one, List.getElem?_append_right (by rw [List.length_replicate]; omega), List.length_replicate, Nat.add_sub_cancel_left]
  exact figs_at k (Nat.lt_succ_self n) h
end My
/-! runs told out -/
namespace My
open PySem L2 Z
/-- runs told out, the sign turning each time -/
def tell (b : Nat) : List Nat → List Nat
  | [] => []
  | n :: r => List.replicate n b ++ tell (97 - b) r
/-- the sign after j turns -/
def turn (b : Nat) : Nat → Nat
  | 0 => b
  | j + 1 => turn (97 - b) j
theorem turn_succ : ∀ (b j : Nat), turn b (j + 1) = 97 - turn b j
  | b, 0 => rfl
  | b, j + 1 => turn_succ (97 - b) j
theorem turn_bit : ∀ {b : Nat} (j : Nat), Bit b → Bit (turn b j)
  | b, 0, h => h
  | b, j + 1, h => turn_bit (b := 97 - b) j (by unfold Bit at *; omega)
theorem tell_app : ∀ (b : Nat) (xs : List Nat) (k : Nat), tell b (xs ++ [k]) = tell b xs ++ List.replicate k (turn b xs.length)
  | b, [], k => by simp [tell, turn]
  | b, x :: xs, k => by
    show List.replicate x b ++ tell (97 - b) (xs ++ [k]) = (List.replicate x b ++ tell (97 - b) xs) ++ List.replicate k (turn (97 - b) xs.length)
    rw [tell_app (97 - b) xs k, List.append_assoc]
theorem tell_len : ∀ (b : Nat) (xs : List Nat), (tell b xs).length = xs.sum
  | b, [] => rfl
  | b, x :: xs => by
    show (List.replicate x b ++ tell (97 - b) xs).length = _
    rw [List.length_append, List.length_replicate, tell_len, List.sum_cons]
theorem tell_runs_aux (l : List Nat) (hb : Bits l) : ∀ i, i < l.length → tell (l.getD 0 48) (rsAll (l.take (i + 1))).1 = l.take (i + 1) ∧ 0 < (rsAll (l.take (i + 1))).1.length ∧
    (rsAll (l.take (i + 1))).2 = [turn (l.getD 0 48) ((rsAll (l.take (i + 1))).1.length - 1)]
  | 0, h => by
    have hc : l[0]? = some (l.getD 0 48) := by rw [List.getD_eq_getElem?_getD, List.getElem?_eq_getElem h]; rfl
    rw [rsAll_take hc, List.take_succ, hc]
    have e : rsAll (l.take 0) = ([], []) := rfl
    rw [e]
    unfold rs
    rw [if_neg (by simp)]
    simp [tell, turn]
  | i + 1, h => by
    obtain ⟨t1, t2, t3⟩ := tell_runs_aux l hb i (by omega)
    have hc : l[i + 1]? = some l[i + 1] := List.getElem?_eq_getElem h
    have hbc := hb _ (List.mem_of_getElem? hc)
    have hb0 : Bit (l.getD 0 48) := by
      rw [List.getD_eq_getElem?_getD, List.getElem?_eq_getElem (by omega : 0 < l.length)]
      exact hb _ (List.getElem_mem _)
    rw [rsAll_take hc]
    have et : l.take (i + 1 + 1) = l.take (i + 1) ++ [l[i + 1]] := by rw [List.take_succ, hc]; rfl
    rw [et]
    generalize l[i + 1] = c at *
    generalize rsAll (l.take (i + 1)) = s at *
    generalize l.getD 0 48 = b at *
    obtain ⟨xs, k, ex⟩ : ∃ xs k, s.1 = xs ++ [k] := by
      rcases List.eq_nil_or_concat s.1 with z | ⟨xs, k, z⟩
      · rw [z] at t2; simp at t2
      · exact ⟨xs, k, by rw [z, List.concat_eq_append]⟩
    have hb1 := turn_bit xs.length hb0
    unfold rs
    rw [ex] at t1 t3 ⊢
    simp only [List.length_append, List.length_singleton, Nat.add_sub_cancel] at t3
    split
    · rename_i e
      have eb : bump (xs ++ [k]) = xs ++ [k + 1] := by unfold bump; simp
      rw [t3] at e
      simp only [eb]
      refine ⟨?_, by simp, ?_⟩
      · rw [tell_app] at t1 ⊢
        rw [List.replicate_succ', ← List.append_assoc, t1, e]
      · simp only [List.length_append, List.length_singleton, Nat.add_sub_cancel]; exact e
    · rename_i e
      rw [t3] at e
      have e2 : c = 97 - turn b xs.length := by
        have : ¬ c = turn b xs.length := fun z => e (by rw [z])
        unfold Bit at hbc hb1
        omega
      refine ⟨?_, by simp, ?_⟩
      · rw [tell_app, t1]
        simp only [List.length_append, List.length_singleton, turn_succ, ← e2]
        rfl
      · simp only [List.length_append, List.length_singleton, Nat.add_sub_cancel, turn_succ, ← e2]
theorem tell_runs {l : List Nat} (hb : Bits l) (h : 0 < l.length) : tell (l.getD 0 48) (runs l) = l := by
  have := (tell_runs_aux l hb (l.length - 1) (by omega)).1
  have e : l.length - 1 + 1 = l.length := by omega
  rw [e, List.take_length] at this
  exact this
end My
namespace My
open PySem PySem.Spec PyProof.Rows L2 Z
/-! ### the shorter code -/
def scode (l : List Nat) : List Nat := if (112 :: l).length ≤ (rcode l).length then 112 :: l else rcode l
theorem scode_or (l : List Nat) : scode l = 112 :: l ∨ scode l = rcode l := by
  unfold scode
  split
  · exact .inl rfl
  · exact .inr rfl
theorem scode_len (l : List Nat) : (scode l).length ≤ l.length + 1 := by
  unfold scode
  split
  · simp
  · rename_i h
    simp only [List.length_cons] at h
    omega
theorem scode_lt {l : List Nat} (h : Bits l) : ∀ c ∈ scode l, c < 1000 := by
  rcases scode_or l with e | e
  · rw [e]
    intro c hc
    rcases List.mem_cons.mp hc with rfl | z
    · decide
    · exact Bits.lt h c z
  · rw [e]
    exact rcode_lt h
end My
namespace My
open PySem PySem.Spec PyProof.Rows L2 Z
/-! ### rows -/
abbrev rowF (sz : Nat) (a b : Addr) (op : Int) (c : Addr) : List (Str × V) := [("size", .int (sz : Nat)), ("head_rows", .ref a), ("code_rows", .ref b), ("opens", .int op), ("held_signs", .ref c)]
abbrev hdV (l : List Nat) (m : Int) : List V := [.int (l.length : Nat), .int (l.count 49 : Nat), .int m]
structure Heads (H : Hp) (ts : List Addr) (bks : List (List Nat)) : Prop where
  len : ts.length = bks.length
  at_ : ∀ (i : Nat) (t : Addr) (l : List Nat), ts[i]? = some t → bks[i]? = some l → ∃ m, H t = some (.tup (hdV l m)) ∧ Least m l
theorem Heads.keep {H H' : Hp} {ts : List Addr} {bks : List (List Nat)} (h : Heads H ts bks) (k : ∀ t xs, H t = some (.tup xs) → H' t = some (.tup xs)) : Heads H' ts bks :=
  ⟨h.len, fun i t l ht hl => by
    obtain ⟨m, e, lm⟩ := h.at_ i t l ht hl
    exact ⟨m, k _ _ e, lm⟩⟩
theorem Heads.get {H : Hp} {ts : List Addr} {bks : List (List Nat)} (h : Heads H ts bks) {i : Nat} {l : List Nat} (hl : bks[i]? = some l) : ∃ t m, ts[i]? = some t ∧ H t = some (.tup (hdV l m)) ∧ Least m l := by
  have hi : i < ts.length := by rw [h.len]; exact (List.getElem?_eq_some_iff.mp hl).1
  obtain ⟨m, e, lm⟩ := h.at_ i _ l (List.getElem?_eq_getElem hi) hl
  exact ⟨_, m, List.getElem?_eq_getElem hi, e, lm⟩
theorem Heads.nil (H : Hp) : Heads H [] [] := ⟨rfl, fun i t l h => nomatch h⟩
theorem Heads.app {H : Hp} {ts us : List Addr} {bs cs : List (List Nat)} (h : Heads H ts bs) (g : Heads H us cs) : Heads H (ts ++ us) (bs ++ cs) := by
  refine ⟨by rw [List.length_append, List.length_append, h.len, g.len], fun i t l ht hl => ?_⟩
  by_cases hi : i < ts.length
  · rw [List.getElem?_append_left hi] at ht
    rw [List.getElem?_append_left (by rw [← h.len]; exact hi)] at hl
    exact h.at_ i t l ht hl
  · rw [List.getElem?_append_right (by omega)] at ht
    rw [List.getElem?_append_right (by rw [← h.len]; omega), ← h.len] at hl
    exact g.at_ _ t l ht hl
theorem Heads.take {H : Hp} {ts : List Addr} {bs : List (List Nat)} (h : Heads H ts bs) (n : Nat) : Heads H (ts.take n) (bs.take n) := by
  refine ⟨by rw [List.length_take, List.length_take, h.len], fun i t l ht hl => ?_⟩
  rw [List.getElem?_take] at ht hl
  split at ht
  · rename_i q
    rw [if_pos q] at hl
    exact h.at_ i t l ht hl
  · cases ht
theorem Heads.drop {H : Hp} {ts : List Addr} {bs : List (List Nat)} (h : Heads H ts bs) (n : Nat) : Heads H (ts.drop n) (bs.drop n) := by
  refine ⟨by rw [List.length_drop, List.length_drop, h.len], fun i t l ht hl => ?_⟩
  rw [List.getElem?_drop] at ht hl
  exact h.at_ _ t l ht hl
/-- what a row's list of heads, codes and signs hold: bks its blocks, hn how many signs are held -/
structure RowAt (C : Addr) (H : Hp) (r : Addr) (fp : List Addr) (sz : Nat) (bks : List (List Nat)) (op : Int) (hn : Nat) : Prop where
  ex : ∃ (dx a b c : Addr) (ts : List Addr), fp = [r, a, b, c] ∧ H r = some (.ins C dx (rowF sz a b op c)) ∧ H a = some (.lst (ts.map V.ref)) ∧ Heads H ts bks ∧ H b = some (.lst (bks.map fun l => T (scode l))) ∧
    H c = some (.lst (List.replicate hn (V.int 0))) ∧ a ≠ b ∧ a ≠ c ∧ b ≠ c
  ok : ∀ l ∈ bks, Bits l ∧ 0 < l.length ∧ l.length ≤ sz
  s4 : 4 ≤ sz
  s64 : sz ≤ 64
  few : bks.flatten.length ≤ 1000
theorem RowAt.own {C : Addr} {H : Hp} {r : Addr} {fp : List Addr} {sz : Nat} {bks : List (List Nat)} {op : Int} {hn : Nat} (R : RowAt C H r fp sz bks op hn) : Own H fp := by
  obtain ⟨dx, a, b, c, ts, rfl, e1, e2, _, e3, e4, _⟩ := R.ex
  intro x hx
  simp only [List.mem_cons, List.not_mem_nil, or_false] at hx
  rcases hx with rfl | rfl | rfl | rfl
  · exact .inr ⟨_, _, _, e1⟩
  · exact .inl ⟨_, e2⟩
  · exact .inl ⟨_, e3⟩
  · exact .inl ⟨_, e4⟩
theorem RowAt.bs {C : Addr} {H H' : Hp} {r : Addr} {fp gp : List Addr} {sz : Nat} {bks : List (List Nat)} {op : Int} {hn : Nat} (R : RowAt C H r fp sz bks op hn) (k : Bs gp H H') (d : Dj fp gp) (w : Own H gp) : RowAt C H' r fp sz bks op hn := by
  obtain ⟨dx, a, b, c, ts, rfl, e1, e2, hd, e3, e4, n1, n2, n3⟩ := R.ex
  refine ⟨⟨dx, a, b, c, ts, rfl, k _ _ (d _ (by simp)) e1, k _ _ (d _ (by simp)) e2, hd.keep fun t xs e => k _ _ (w.tup e) e, k _ _ (d _ (by simp)) e3, k _ _ (d _ (by simp)) e4, n1, n2, n3⟩, R.ok, R.s4, R.s64, R.few⟩
theorem RowAt.exx {C : Addr} {H H' : Hp} {r : Addr} {fp : List Addr} {sz : Nat} {bks : List (List Nat)} {op : Int} {hn : Nat} (R : RowAt C H r fp sz bks op hn) (k : Ex H H') : RowAt C H' r fp sz bks op hn :=
  R.bs (gp := []) k.bs (fun _ _ h => nomatch h) (fun _ h => nomatch h)
theorem RowAt.mem {C : Addr} {H : Hp} {r : Addr} {fp : List Addr} {sz : Nat} {bks : List (List Nat)} {op : Int} {hn : Nat} (R : RowAt C H r fp sz bks op hn) : r ∈ fp := by
  obtain ⟨dx, a, b, c, ts, rfl, _⟩ := R.ex
  exact List.mem_cons_self
theorem len_flat_pos : ∀ {bks : List (List Nat)}, (∀ l ∈ bks, 0 < l.length) → bks.length ≤ bks.flatten.length
  | [], _ => by simp
  | l :: r, h => by
    have h1 := h l List.mem_cons_self
    have h2 := len_flat_pos (bks := r) fun x hx => h x (List.mem_cons_of_mem _ hx)
    rw [List.flatten_cons, List.length_append, List.length_cons]
    omega
theorem RowAt.few2 {C : Addr} {H : Hp} {r : Addr} {fp : List Addr} {sz : Nat} {bks : List (List Nat)} {op : Int} {hn : Nat} (R : RowAt C H r fp sz bks op hn) : bks.length ≤ 1000 :=
  Nat.le_trans (len_flat_pos fun l h => (R.ok l h).2.1) R.few
/-! ### bits in parts -/
def parts (sz : Nat) (l : List Nat) : List (List Nat) := (List.range ((l.length + sz - 1) / sz)).map fun i => (l.drop (i * sz)).take sz
theorem parts_take (sz : Nat) (l : List Nat) (k : Nat) : ((List.range k).map fun i => (l.drop (i * sz)).take sz).flatten = l.take (k * sz) := by
  induction k with
  | zero => simp
  | succ k ih => rw [List.range_succ, List.map_append, List.flatten_append, ih, Nat.succ_mul, List.take_add]; simp
theorem parts_flat {sz : Nat} (h : 0 < sz) (l : List Nat) : (parts sz l).flatten = l := by
  unfold parts
  rw [parts_take]
  refine List.take_of_length_le ?_
  have := Nat.div_add_mod (l.length + sz - 1) sz
  have := Nat.mod_lt (l.length + sz - 1) h
  rw [Nat.mul_comm]
  omega
theorem parts_at {sz : Nat} (h : 0 < sz) (l : List Nat) {i : Nat} (hi : i < (l.length + sz - 1) / sz) : (parts sz l)[i]? = some ((l.drop (i * sz)).take sz) ∧ i * sz < l.length := by
  constructor
  · unfold parts
    rw [List.getElem?_map, List.getElem?_range hi]
    rfl
  · have h1 : (i + 1) * sz ≤ l.length + sz - 1 := (Nat.le_div_iff_mul_le h).mp hi
    rw [Nat.succ_mul] at h1
    omega
theorem parts_mem {sz : Nat} (h : 0 < sz) {l x : List Nat} (hx : x ∈ parts sz l) : 0 < x.length ∧ x.length ≤ sz ∧ ∀ c ∈ x, c ∈ l := by
  unfold parts at hx
  obtain ⟨i, hi, rfl⟩ := List.mem_map.mp hx
  have := (parts_at h l (List.mem_range.mp hi)).2
  refine ⟨by rw [List.length_take, List.length_drop]; omega, by rw [List.length_take]; omega, fun c hc => List.mem_of_mem_drop (List.mem_of_mem_take hc)⟩
theorem parts_len (sz : Nat) (l : List Nat) : (parts sz l).length = (l.length + sz - 1) / sz := by unfold parts; simp
/-! ### the block at a place -/
structure Found (bks : List (List Nat)) (at_ n ahead : Nat) : Prop where
  le : n ≤ bks.length
  eq : ahead = (bks.take n).flatten.length
  lo : ahead ≤ at_
  hi : ∀ l, bks[n]? = some l → at_ < ahead + l.length
theorem take_flat_succ {bks : List (List Nat)} {n : Nat} {l : List Nat} (h : bks[n]? = some l) : (bks.take (n + 1)).flatten = (bks.take n).flatten ++ l := by
  rw [List.take_succ, h, List.flatten_append]
  simp
theorem flat_split {bks : List (List Nat)} {n : Nat} {l : List Nat} (h : bks[n]? = some l) : bks.flatten = (bks.take n).flatten ++ (l ++ (bks.drop (n + 1)).flatten) := by
  conv => lhs; rw [← List.take_append_drop n bks]
  have hn : n < bks.length := (List.getElem?_eq_some_iff.mp h).1
  have e := (List.getElem?_eq_some_iff.mp h).2
  rw [List.drop_eq_getElem_cons hn, e, List.flatten_append, List.flatten_cons]
theorem Found.end_ {bks : List (List Nat)} {a n h : Nat} (f : Found bks a n h) : n = bks.length → h = bks.flatten.length := fun e => by rw [f.eq, e, List.take_length]
end My
namespace My
open PySem PySem.Spec PyProof.Rows L2 Z
theorem cut_mid (l : List Nat) (a b : Int) (h0 : 0 ≤ a) (h1 : a ≤ b) : cut l (some a) (some b) = (l.drop a.toNat).take (b - a).toNat := by
  unfold cut HT.sIx
  simp only [if_neg (show ¬ a < 0 by omega), if_neg (show ¬ b < 0 by omega)]
  by_cases g : a.toNat ≤ l.length
  · rw [Nat.min_eq_left g, List.take_eq_take_iff, List.length_drop]
    omega
  · rw [Nat.min_eq_right (show l.length ≤ a.toNat by omega), List.drop_eq_nil_of_le (Nat.le_refl _), List.drop_eq_nil_of_le (show l.length ≤ a.toNat by omega)]
    simp
theorem atI_at {α : Type} {l : List α} {i : Nat} {x : α} (h : l[i]? = some x) : atI l (i : Int) = some x := atI_nat h
end My
namespace My
open PySem PySem.Spec PyProof.Rows L2 Z
theorem RowAt.opened {C : Addr} {H H' : Hp} {r : Addr} {fp : List Addr} {sz : Nat} {bks : List (List Nat)} {op op' : Int} {hn : Nat} {dx a b c : Addr} (R : RowAt C H r fp sz bks op hn) (e : H r = some (.ins C dx (rowF sz a b op c))) (q : H' r = some (.ins C dx (rowF sz a b op' c))) (k : But r H H') :
    RowAt C H' r fp sz bks op' hn := by
  obtain ⟨dx', a', b', c', ts, rfl, e1, e2, hd, e3, e4, n1, n2, n3⟩ := R.ex
  rw [e] at e1
  cases e1
  have nr : ∀ {x o}, H x = some (HO.lst o) → x ≠ r := fun {x o} h z => by
    rw [z, e] at h
    cases h
  refine ⟨⟨dx, a, b, c, ts, rfl, q, k _ _ (nr e2) e2, hd.keep fun t xs h => k _ _ (fun z => ?_) h, k _ _ (nr e3) e3, k _ _ (nr e4) e4, n1, n2, n3⟩, R.ok, R.s4, R.s64, R.few⟩
  rw [z, e] at h
  cases h
end My
namespace My
open PySem PySem.Spec PyProof.Rows L2 Z
/-- how many bits stand in the blocks that end at a place or ahead of it -/
def aheadB : List (List Nat) → Nat → Nat
  | [], _ => 0
  | l :: r, i => if l.length ≤ i then l.length + aheadB r (i - l.length) else 0
theorem found_ahead : ∀ {bks : List (List Nat)} {i n h : Nat}, Found bks i n h → h = aheadB bks i
  | [], i, n, h, f => by
    have := f.eq
    simp at this
    rw [this]; rfl
  | l :: r, i, n, h, f => by
    unfold aheadB
    cases n with
    | zero =>
      have h0 := f.eq
      rw [List.take_zero] at h0
      simp at h0
      have := f.hi l rfl
      rw [if_neg (by omega), h0]
    | succ n =>
      have h0 := f.eq
      rw [List.take_succ_cons, List.flatten_cons, List.length_append] at h0
      have h1 := f.lo
      have h2 := f.le
      rw [List.length_cons] at h2
      rw [if_pos (by omega), ← found_ahead (bks := r) (i := i - l.length) (n := n) (h := h - l.length) ⟨by omega, by omega, by omega, fun x hx => ?_⟩]
      · omega
      · have := f.hi x hx
        omega
def opA (bks : List (List Nat)) (i : Nat) : Int := if aheadB bks i < i then 1 else 0
theorem Found.opA {bks : List (List Nat)} {i n h : Nat} (f : Found bks i n h) : opA bks i = if h < i then 1 else 0 := by
  unfold My.opA
  rw [← found_ahead f]
/-- the block found bears the place -/
theorem Found.in_ {bks : List (List Nat)} {i n h : Nat} (f : Found bks i n h) (hi : i < bks.flatten.length) : ∃ l, bks[n]? = some l ∧ bks.flatten[i]? = l[i - h]? ∧ i - h < l.length ∧ h ≤ i := by
  have hn : n < bks.length := by
    rcases Nat.lt_or_ge n bks.length with z | z
    · exact z
    · have e : n = bks.length := Nat.le_antisymm f.le z
      have := f.end_ e
      have := f.lo
      omega
  have hl : bks[n]? = some bks[n] := List.getElem?_eq_getElem hn
  have hh := f.hi _ hl
  have lo := f.lo
  refine ⟨_, hl, ?_, by omega, lo⟩
  rw [flat_split hl, List.getElem?_append_right (by rw [← f.eq]; exact lo), ← f.eq, List.getElem?_append_left (by omega)]
theorem Found.take {bks : List (List Nat)} {i n h : Nat} (f : Found bks i n h) {l : List Nat} (hl : bks[n]? = some l) : bks.flatten.take i = (bks.take n).flatten ++ l.take (i - h) := by
  have hh := f.hi _ hl
  have lo := f.lo
  rw [flat_split hl, List.take_append, ← f.eq, List.take_of_length_le (by rw [← f.eq]; exact lo), List.take_append_of_le_length (by omega)]
theorem Found.take_eq {bks : List (List Nat)} {i n h : Nat} (f : Found bks i n h) (e : i ≤ h) : bks.flatten.take i = (bks.take n).flatten := by
  have lo := f.lo
  have e2 : i = h := by omega
  conv => lhs; rw [← List.take_append_drop n bks, List.flatten_append]
  rw [List.take_append_of_le_length (by rw [← f.eq]; omega), List.take_of_length_le (by rw [← f.eq]; omega)]
end My
namespace My
open PySem PySem.Spec PyProof.Rows L2 Z
theorem zmethR_ {C : Addr} {H : Hp} {r : Addr} {fp : List Addr} {sz : Nat} {bks : List (List Nat)} {op : Int} {hn : Nat} {m : Str} {t : TA} {q : V → List V → Hp → Prop} {σ : L2.St} (R : RowAt C H r fp sz bks op hn) (no : ∀ sz a b op c, (rowF sz a b op c).lookup m = none)
    (h : t σ H fun vs H2 => q (.ref r) vs H2) : zMeth C m t q σ (.ref r) H := by
  obtain ⟨dx, a, b, c, ts, rfl, e1, _⟩ := R.ex
  exact zmeth_ e1 (no _ _ _ _ _) h
theorem ownR_ {C : Addr} {H : Hp} {r : Addr} {fp : List Addr} {sz : Nat} {bks : List (List Nat)} {op : Int} {hn : Nat} {sp : Sp} {gV : List V → List V → List V} {P : VK → VK} {Q : VK} (R : RowAt C H r fp sz bks op hn) (h : zSp sp (gV [.ref r] []) H (P Q) (fun _ _ _ => False)) : rOwn1 C sp gV P [.ref r] H Q := by
  obtain ⟨dx, a, b, c, ts, rfl, e1, _⟩ := R.ex
  exact own1_ e1 h
end My
namespace My
theorem sum_counts : ∀ bks : List (List Nat), (bks.map fun l => ((l.count 49 : Nat) : Int)).sum = (bks.flatten.count 49 : Nat)
  | [] => rfl
  | l :: r => by rw [List.map_cons, List.sum_cons, sum_counts r, List.flatten_cons, List.count_append]; omega
end My
namespace My
open PySem L2 Z
/-- the places of a sign in a text -/
def spots (c : Nat) : List Nat → List Nat
  | [] => []
  | x :: r => (if x = c then [0] else []) ++ (spots c r).map (· + 1)
def spot (c : Nat) (l : List Nat) (j : Nat) : Option Nat := (spots c l)[j]?
theorem spots_len (c : Nat) : ∀ l : List Nat, (spots c l).length = l.count c
  | [] => rfl
  | x :: r => by
    rw [spots, List.length_append, List.length_map, spots_len c r, List.count_cons]
    by_cases h : x = c
    · rw [if_pos h, h]; simp; omega
    · rw [if_neg h]; simp [h]
theorem spots_app (c : Nat) : ∀ a b : List Nat, spots c (a ++ b) = spots c a ++ (spots c b).map (· + a.length)
  | [], b => by simp [spots]
  | x :: r, b => by
    rw [List.cons_append, spots, spots_app c r b, List.map_append, spots, List.map_map, List.append_assoc]
    congr 2
    first
      | done
      | (apply List.map_congr_left
         intro y _
         simp only [Function.comp_apply, List.length_cons]
         omega)
theorem spots_snoc (c x : Nat) (a : List Nat) : spots c (a ++ [x]) = spots c a ++ (if x = c then [a.length] else []) := by
  rw [spots_app]
  congr 1
  simp only [spots, List.map_nil, List.append_nil]
  by_cases h : x = c
  · rw [if_pos h, if_pos h]; simp
  · rw [if_neg h, if_neg h]; rfl
theorem spots_take {c x : Nat} {l : List Nat} {i : Nat} (h : l[i]? = some x) : spots c (l.take (i + 1)) = spots c (l.take i) ++ (if x = c then [i] else []) := by
  have hi : i < l.length := (List.getElem?_eq_some_iff.mp h).1
  have e : l.take (i + 1) = l.take i ++ [x] := by rw [List.take_succ, h]; rfl
  rw [e, spots_snoc, List.length_take, Nat.min_eq_left (by omega)]
end My
namespace My
open PySem L2 Z
theorem bits_count : ∀ {l : List Nat}, Bits l → l.count 48 + l.count 49 = l.length
  | [], _ => rfl
  | x :: r, h => by
    have ih := bits_count (l := r) fun c hc => h c (List.mem_cons_of_mem _ hc)
    rcases h x List.mem_cons_self with e | e
    · rw [e, List.count_cons_self, List.count_cons_of_ne (by decide), List.length_cons]; omega
    · rw [e, List.count_cons_self, List.count_cons_of_ne (by decide), List.length_cons]; omega
theorem spot_flat {bks : List (List Nat)} {c i j : Nat} {l : List Nat} (hl : bks[i]? = some l) {n : Nat} (h : spot c l j = some n) : spot c bks.flatten ((bks.take i).flatten.count c + j) = some ((bks.take i).flatten.length + n) := by
  unfold spot at h ⊢
  rw [flat_split hl, spots_app, spots_app]
  have hj : j < (spots c l).length := (List.getElem?_eq_some_iff.mp h).1
  rw [List.getElem?_append_right (by rw [spots_len]; omega), spots_len, List.getElem?_map, List.getElem?_append_left (by omega)]
  rw [show (bks.take i).flatten.count c + j - (bks.take i).flatten.count c = j by omega, h]
  simp
  omega
end My
namespace My
open PySem PySem.Spec PyProof.Rows L2 Z
theorem shown_bit {c : Nat} (h : c = 48 ∨ c = 49) : shownL (.int ((c : Int) - 48)) = [c] := by
  rcases h with rfl | rfl
  · unfold shownL; simp only [PyData.shown]; decide +kernel
  · unfold shownL; simp only [PyData.shown]; decide +kernel
theorem rp3 {a b c : Int} (h1 : -100000 < a) (h2 : a < 100000) (h3 : -100000 < b) (h4 : b < 100000) (h5 : -100000 < c) (h6 : c < 100000) : Rp (.list [.int a, .int b, .int c]) 85 2 := by
  refine .lst (n := 25) (k := 1) fun d hd => ?_
  simp only [List.mem_cons, List.not_mem_nil, or_false] at hd
  rcases hd with rfl | rfl | rfl
  · exact .int (by omega) (by omega)
  · exact .int (by omega) (by omega)
  · exact .int (by omega) (by omega)
end My
namespace My
open PySem PySem.Spec PyProof.Rows L2 Z
theorem dpa_nats {K : PySem.W.Frag} {H : Hp} : ∀ ns : List Nat, DpAll K H (ns.map fun n => V.int (n : Nat)) (ns.map fun n => PyData.int (n : Nat))
  | [] => .nil
  | n :: r => .cons (.int _) (dpa_nats r)
theorem dp_nats {K : PySem.W.Frag} {H : Hp} {a : Addr} {ns : List Nat} (h : H a = some (.lst (ns.map fun n => V.int (n : Nat)))) : Dp K H (.ref a) (.list (ns.map fun n => PyData.int (n : Nat))) := .lst (SqL.of h) (dpa_nats ns)
theorem rp_nats {ns : List Nat} (h : ∀ n ∈ ns, n ≤ 100000) : Rp (.list (ns.map fun n => PyData.int (n : Nat))) (ns.length * 27 + 4) 2 := by
  have := Rp.lst (ds := ns.map fun n => PyData.int (n : Nat)) (n := 25) (k := 1) fun d hd => by
    obtain ⟨n, hn, rfl⟩ := List.mem_map.mp hd
    have := h n hn
    exact .int (by omega) (by omega)
  rw [List.length_map] at this
  exact this
theorem spots_lt {c : Nat} : ∀ {l : List Nat} {n : Nat}, n ∈ spots c l → n < l.length
  | x :: r, n, h => by
    rw [spots] at h
    rcases List.mem_append.mp h with z | z
    · by_cases e : x = c
      · rw [if_pos e] at z
        rw [List.mem_singleton.mp z]; simp
      · rw [if_neg e] at z; cases z
    · obtain ⟨m, hm, rfl⟩ := List.mem_map.mp z
      have := spots_lt hm
      rw [List.length_cons]
      omega
end My
namespace My
open PySem PySem.Spec PyProof.Rows L2 Z
theorem _root_.Z.Urn.nf {H : Hp} {u : Addr} {n : Nat} {fp : List Addr} (hu : Urn H u n) (nf : ∀ y ∈ fp, H y = none) : u ∉ fp := fun m => Urn.ne_new (nf u m) hu rfl
theorem _root_.Z.Urn.own {H : Hp} {u : Addr} {n : Nat} (hu : Urn H u n) : Own H [u] := fun x m => by
  rw [List.mem_singleton.mp m]
  obtain ⟨_, _, _, e, _⟩ := hu
  exact .inl ⟨_, e⟩
theorem RowAt.but {C : Addr} {H H' : Hp} {r : Addr} {fp : List Addr} {sz : Nat} {bks : List (List Nat)} {op : Int} {hn : Nat} {u : Addr} (R : RowAt C H r fp sz bks op hn) (w : Own H [u]) (n : u ∉ fp) (k : But u H H') : RowAt C H' r fp sz bks op hn :=
  R.bs k.bs (fun x hx hm => by rw [List.mem_singleton.mp hm] at hx; exact n hx) w
theorem RowAt.ins {C : Addr} {H : Hp} {r : Addr} {fp : List Addr} {sz : Nat} {bks : List (List Nat)} {op : Int} {hn : Nat} (R : RowAt C H r fp sz bks op hn) : ∃ dx fs, H r = some (.ins C dx fs) := by
  obtain ⟨dx, a, b, c, ts, _, e, _⟩ := R.ex
  exact ⟨_, _, e⟩
theorem RowAt.own1 {C : Addr} {H : Hp} {r : Addr} {fp : List Addr} {sz : Nat} {bks : List (List Nat)} {op : Int} {hn : Nat} (R : RowAt C H r fp sz bks op hn) : Own H [r] := fun x m => by
  rw [List.mem_singleton.mp m]
  obtain ⟨dx, fs, e⟩ := R.ins
  exact .inr ⟨_, _, _, e⟩
theorem RowAt.nl {C : Addr} {H : Hp} {r : Addr} {fp : List Addr} {sz : Nat} {bks : List (List Nat)} {op : Int} {hn : Nat} (R : RowAt C H r fp sz bks op hn) {q : Addr} {xs : List V} (h : H q = some (.lst xs)) : q ≠ r := fun z => by
  obtain ⟨dx, fs, e⟩ := R.ins
  rw [z, e] at h
  cases h
theorem RowAt.nn {C : Addr} {H : Hp} {r : Addr} {fp : List Addr} {sz : Nat} {bks : List (List Nat)} {op : Int} {hn : Nat} (R : RowAt C H r fp sz bks op hn) {q : Addr} (h : H q = none) : q ∉ fp := R.own.new h
end My
namespace My
open PySem PySem.Spec PyProof.Rows L2 Z
/-! ### no two neighbours fit into one block -/
def TightAt (sz : Nat) (bks : List (List Nat)) (lo hi : Nat) : Prop := ∀ (i : Nat) (x y : List Nat), i < lo ∨ hi ≤ i → bks[i]? = some x → bks[i + 1]? = some y → sz < x.length + y.length
def Tight (sz : Nat) (bks : List (List Nat)) : Prop := ∀ (i : Nat) (x y : List Nat), bks[i]? = some x → bks[i + 1]? = some y → sz < x.length + y.length
theorem Tight.nil (sz : Nat) : Tight sz [] := fun i x y h => nomatch h
theorem tight_parts {sz : Nat} (h : 0 < sz) (l : List Nat) : Tight sz (parts sz l) := by
  intro i x y hx hy
  have hi : i + 1 < (l.length + sz - 1) / sz := by
    have := (List.getElem?_eq_some_iff.mp hy).1
    rwa [parts_len] at this
  obtain ⟨e1, l1⟩ := parts_at h l (i := i) (by omega)
  obtain ⟨e2, l2⟩ := parts_at h l hi
  rw [e1] at hx
  rw [e2] at hy
  cases hx
  cases hy
  rw [Nat.succ_mul] at l2
  rw [List.length_take, List.length_drop, List.length_take, List.length_drop, Nat.succ_mul]
  omega
theorem tight_start {sz : Nat} {bks P : List (List Nat)} (t : Tight sz bks) {n m : Nat} (hn : n ≤ bks.length) : TightAt sz (bks.take n ++ P ++ bks.drop m) (n - 1) (n + P.length) := by
  intro i x y hi hx hy
  have ln : (bks.take n).length = n := by rw [List.length_take]; omega
  rcases hi with hi | hi
  · rw [List.append_assoc, List.getElem?_append_left (by omega), List.getElem?_take_of_lt (by omega)] at hx
    rw [List.append_assoc, List.getElem?_append_left (by omega), List.getElem?_take_of_lt (by omega)] at hy
    exact t i x y hx hy
  · have lP : (bks.take n ++ P).length = n + P.length := by rw [List.length_append, ln]
    rw [List.getElem?_append_right (by omega), List.getElem?_drop, lP] at hx hy
    refine t _ x y hx ?_
    rw [← hy]
    congr 1
    omega
theorem merge_at {B : List (List Nat)} {z : List Nat} {k i : Nat} (hk : k + 1 < B.length) : (B.take k ++ [z] ++ B.drop (k + 2))[i]? = if i < k then B[i]? else if i = k then some z else B[i + 1]? := by
  have lk : (B.take k).length = k := by rw [List.length_take]; omega
  by_cases h1 : i < k
  · rw [if_pos h1, List.append_assoc, List.getElem?_append_left (by omega), List.getElem?_take_of_lt h1]
  · rw [if_neg h1]
    by_cases h2 : i = k
    · rw [if_pos h2, h2, List.append_assoc, List.getElem?_append_right (by omega), lk]
      simp
    · rw [if_neg h2, List.getElem?_append_right (by rw [List.length_append, lk, List.length_singleton]; omega), List.getElem?_drop, List.length_append, lk, List.length_singleton]
      congr 1
      omega
theorem tight_merge {sz : Nat} {B : List (List Nat)} {k e : Nat} {x y : List Nat} (t : TightAt sz B k e) (hk : k < e) (hx : B[k]? = some x) (hy : B[k + 1]? = some y) : TightAt sz (B.take k ++ [x ++ y] ++ B.drop (k + 2)) (k - 1) (e - 1) := by
  have hkl : k + 1 < B.length := (List.getElem?_eq_some_iff.mp hy).1
  intro i a b hi ha hb
  rw [merge_at hkl] at ha hb
  rcases hi with hi | hi
  · rw [if_pos (by omega)] at ha
    rw [if_pos (by omega)] at hb
    exact t i a b (.inl (by omega)) ha hb
  · rw [if_neg (by omega)] at ha
    rw [if_neg (by omega), if_neg (by omega)] at hb
    by_cases h2 : i = k
    · rw [if_pos h2] at ha
      cases ha
      rw [h2] at hb
      have := t (k + 1) y b (.inr (by omega)) hy hb
      rw [List.length_append]
      omega
    · rw [if_neg h2] at ha
      exact t (i + 1) a b (.inr (by omega)) ha hb
theorem tight_step {sz : Nat} {B : List (List Nat)} {k e : Nat} {x y : List Nat} (t : TightAt sz B k e) (hx : B[k]? = some x) (hy : B[k + 1]? = some y) (h : sz < x.length + y.length) : TightAt sz B (k + 1) e := by
  intro i a b hi ha hb
  by_cases q : i = k
  · subst q
    rw [hx] at ha
    rw [hy] at hb
    cases ha
    cases hb
    exact h
  · exact t i a b (by omega) ha hb
theorem tight_end {sz : Nat} {B : List (List Nat)} {k e : Nat} (t : TightAt sz B k e) (h : e ≤ k ∨ B.length ≤ k + 1) : Tight sz B := by
  intro i a b ha hb
  have := (List.getElem?_eq_some_iff.mp hb).1
  exact t i a b (by omega) ha hb
theorem parts_one {sz : Nat} {l : List Nat} (h0 : 0 < l.length) (h1 : l.length ≤ sz) : parts sz l = [l] := by
  have e : (l.length + sz - 1) / sz = 1 := Nat.div_eq_of_lt_le (by omega) (by omega)
  unfold parts
  rw [e, List.range_one, List.map_singleton, Nat.zero_mul, List.drop_zero, List.take_of_length_le h1]
theorem parts_nil (sz : Nat) : parts sz [] = [] := by
  by_cases h : sz = 0
  · subst h; rfl
  · unfold parts
    rw [List.length_nil, Nat.zero_add, Nat.div_eq_of_lt (by omega)]
    rfl
theorem merge_flat {B : List (List Nat)} {k : Nat} {x y : List Nat} (hx : B[k]? = some x) (hy : B[k + 1]? = some y) : (B.take k ++ [x ++ y] ++ B.drop (k + 2)).flatten = B.flatten := by
  have h1 := flat_split hx
  have h2 : k + 1 < B.length := (List.getElem?_eq_some_iff.mp hy).1
  have e2 := (List.getElem?_eq_some_iff.mp hy).2
  rw [h1, List.drop_eq_getElem_cons h2, e2]
  simp
end My
namespace My
open PySem PySem.Spec PyProof.Rows L2 Z
theorem _root_.Z.Grow.old {H H' : Hp} {f f' : List Addr} (g : Grow H' f f') (b : Bs f H H') : Grow H f f' := fun x hx => by
  rcases g x hx with z | z
  · exact .inl z
  · by_cases h : x ∈ f
    · exact .inl h
    · right
      cases q : H x with
      | none => rfl
      | some o => rw [b _ _ h q] at z; cases z
theorem _root_.Z.Grow.trans {H : Hp} {f g k : List Addr} (a : Grow H f g) (b : Grow H g k) : Grow H f k := fun x hx => by
  rcases b x hx with z | z
  · exact a x z
  · exact .inr z
/-- one change behind another, of what has grown -/
theorem _root_.Z.Bs.grow {H H1 H2 : Hp} {f g : List Addr} (b : Bs f H H1) (gr : Grow H f g) (c : Bs g H1 H2) : Bs f H H2 := c.old b gr
end My
namespace My
open PySem PySem.Spec PyProof.Rows L2 Z
section
variable {K : PySem.W.Frag} {C : Addr} {H : Hp} {r r2 : Addr} {fp fp2 : List Addr} {sz sz2 : Nat} {bks bks2 : List (List Nat)} {op op2 : Int} {hn hn2 : Nat} {sp : Sp} {gV : List V → List V → List V} {Q : VK}
theorem eqR_ (R : RowAt C H r fp sz bks op hn) (R2 : RowAt C H r2 fp2 sz2 bks2 op2 hn2) (h : zSp sp (gV [.ref r, .ref r2] []) H (fun v H' => ∃ c, v = .bl c ∧ Q v H') (fun _ _ _ => False)) : rEqO C sp gV (.ref r) (.ref r2) H Q := by
  obtain ⟨dx, fs, e⟩ := R.ins
  obtain ⟨dx2, fs2, e2⟩ := R2.ins
  exact eqO_ e e2 h
theorem neR_ (R : RowAt C H r fp sz bks op hn) (R2 : RowAt C H r2 fp2 sz2 bks2 op2 hn2) (h : zSp sp (gV [.ref r, .ref r2] []) H (fun v H' => ∃ c, v = .bl c ∧ Q (.bl (!c)) H') (fun _ _ _ => False)) : rNeO C sp gV (.ref r) (.ref r2) H Q := by
  obtain ⟨dx, fs, e⟩ := R.ins
  obtain ⟨dx2, fs2, e2⟩ := R2.ins
  exact neO_ e e2 h
theorem isR_ (R : RowAt C H r fp sz bks op hn) (c : Cls K C) (o : OwnC K C) (h : Q (.bl true) H) : rIsZ K [.ref r, .ref C] H Q := by
  obtain ⟨dx, fs, e⟩ := R.ins
  exact isO_ e c o h
theorem sizeR_ (R : RowAt C H r fp sz bks op hn) (c : Cls K C) (n : NoAttr K C "size") (h : Q (.int (sz : Nat)) H) : zFld K "size" Q (.ref r) H := by
  obtain ⟨dx, a, b, cc, ts, _, e, _⟩ := R.ex
  exact zfld_ e c n rfl h
end
end My
namespace My
open PySem PySem.Spec PyProof.Rows L2 Z
theorem put_mid {bks : List (List Nat)} {i A n : Nat} {x l : List Nat} (hx : bks[i]? = some x) (hA : A = (bks.take i).flatten.length) (h0 : A ≤ n) (h1 : n ≤ A + x.length) :
    (bks.take i).flatten ++ (x.take (n - A) ++ l ++ x.drop (n - A)) ++ (bks.drop (i + 1)).flatten = bks.flatten.take n ++ l ++ bks.flatten.drop n := by
  have e1 : bks.flatten.take n = (bks.take i).flatten ++ x.take (n - A) := by
    rw [flat_split hx, List.take_append, ← hA, List.take_of_length_le (by omega), List.take_append_of_le_length (by omega)]
  have e2 : bks.flatten.drop n = x.drop (n - A) ++ (bks.drop (i + 1)).flatten := by
    rw [flat_split hx, List.drop_append, ← hA, List.drop_of_length_le (by omega), List.drop_append_of_le_length (by omega)]
    rfl
  rw [e1, e2]
  simp only [List.append_assoc]
theorem Found.drop {bks : List (List Nat)} {i n h : Nat} (f : Found bks i n h) {l : List Nat} (hl : bks[n]? = some l) : bks.flatten.drop i = l.drop (i - h) ++ (bks.drop (n + 1)).flatten := by
  have hh := f.hi _ hl
  have lo := f.lo
  rw [flat_split hl, List.drop_append, ← f.eq, List.drop_of_length_le (by rw [← f.eq]; exact lo), List.drop_append_of_le_length (by omega)]
  rfl
theorem Found.drop_eq {bks : List (List Nat)} {i n h : Nat} (f : Found bks i n h) (e : i ≤ h) : bks.flatten.drop i = (bks.drop n).flatten := by
  have lo := f.lo
  have ei : i = (bks.take n).flatten.length := by rw [← f.eq]; omega
  conv => lhs; rw [← List.take_append_drop n bks, List.flatten_append, ei]
  rw [List.drop_left]
theorem Found.mono {bks : List (List Nat)} {a n h b m g : Nat} (f : Found bks a n h) (f2 : Found bks b m g) (ab : a ≤ b) : n ≤ m := by
  rcases Nat.lt_or_ge m n with q | q
  · have hm : m < bks.length := Nat.lt_of_lt_of_le q f.le
    have hx : bks[m]? = some bks[m] := List.getElem?_eq_getElem hm
    have h1 := f2.hi _ hx
    have h2 : (bks.take (m + 1)).flatten.length ≤ (bks.take n).flatten.length := by
      have e : bks.take n = bks.take (m + 1) ++ (bks.take n).drop (m + 1) := by
        conv => lhs; rw [← List.take_append_drop (m + 1) (bks.take n)]
        rw [List.take_take, Nat.min_eq_left (by omega)]
      rw [e, List.flatten_append, List.length_append]
      omega
    rw [take_flat_succ hx, List.length_append, ← f2.eq, ← f.eq] at h2
    have := f.lo
    omega
  · exact q
theorem Found.lt_len {bks : List (List Nat)} {a n h : Nat} (f : Found bks a n h) (ha : a ≤ bks.flatten.length) (q : h < a) : n < bks.length := by
  rcases Nat.lt_or_ge n bks.length with z | z
  · exact z
  · have := f.end_ (Nat.le_antisymm f.le z)
    omega
end My
namespace My
open PySem L2 Z
theorem figs64 {sz : Nat} (h0 : 0 < sz) (h : sz ≤ 64) : (figs sz).length ≤ 7 := by
  have hb := figs_bound (Nat.lt_succ_self sz) h0
  rcases Nat.lt_or_ge (figs sz).length 8 with q | q
  · omega
  · have : 2 ^ 7 ≤ 2 ^ ((figs sz).length - 1) := Nat.pow_le_pow_right (by omega) (by omega)
    have := hb.1
    omega
theorem sum_natcast : ∀ ns : List Nat, (ns.map fun n => ((n : Nat) : Int)).sum = (ns.sum : Nat)
  | [] => rfl
  | n :: r => by rw [List.map_cons, List.sum_cons, List.sum_cons, sum_natcast r]; omega
end My
namespace My
open PySem L2 Z
theorem turn_mid {bks : List (List Nat)} {i A n : Nat} {x l : List Nat} (hx : bks[i]? = some x) (hA : A = (bks.take i).flatten.length) (h0 : A ≤ n) (h1 : n < A + x.length) :
    (bks.take i).flatten ++ (x.take (n - A) ++ l ++ x.drop (n - A + 1)) ++ (bks.drop (i + 1)).flatten = bks.flatten.take n ++ l ++ bks.flatten.drop (n + 1) := by
  have e1 : bks.flatten.take n = (bks.take i).flatten ++ x.take (n - A) := by
    rw [flat_split hx, List.take_append, ← hA, List.take_of_length_le (by omega), List.take_append_of_le_length (by omega)]
  have e2 : bks.flatten.drop (n + 1) = x.drop (n - A + 1) ++ (bks.drop (i + 1)).flatten := by
    rw [flat_split hx, List.drop_append, ← hA, List.drop_of_length_le (by omega), List.drop_append_of_le_length (by omega)]
    rw [show n + 1 - A = n - A + 1 by omega]
    rfl
  rw [e1, e2]
  simp only [List.append_assoc]
end My
namespace My
open PySem L2 Z
theorem room_sum : ∀ bks : List (List Nat), (bks.map fun l => (scode l).length).sum ≤ bks.flatten.length + bks.length
  | [] => Nat.le_refl _
  | l :: r => by
    have ih := room_sum r
    have h := scode_len l
    rw [List.map_cons, List.sum_cons, List.flatten_cons, List.length_append, List.length_cons]
    omega
end My
namespace My
open PySem PySem.Spec PyProof.Rows L2 Z
theorem _root_.Z.Urn.bs {H H' : Hp} {u : Addr} {n : Nat} {fp : List Addr} (hu : Urn H u n) (nu : u ∉ fp) (b : Bs fp H H') : Urn H' u n := by
  obtain ⟨g, c, k, e, r⟩ := hu
  exact ⟨g, c, k, b _ _ nu e, r⟩
theorem _root_.Z.Urn.ngrow {H : Hp} {u : Addr} {n : Nat} {fp fp' : List Addr} (hu : Urn H u n) (nu : u ∉ fp) (g : Grow H fp fp') : u ∉ fp' := fun m => by
  rcases g u m with z | z
  · exact nu z
  · exact Urn.ne_new z hu rfl
theorem _root_.Z.But.bsu {H H' : Hp} {u : Addr} {fp : List Addr} (b : But u H H') : Bs (u :: fp) H H' := b.bs.mono fun x hx => by rw [List.mem_singleton.mp hx]; exact List.mem_cons_self
theorem _root_.Z.Bs.bsu {H H' : Hp} {u : Addr} {fp : List Addr} (b : Bs fp H H') : Bs (u :: fp) H H' := b.mono fun x hx => List.mem_cons_of_mem _ hx
/-- grown since an older heap -/
theorem _root_.Z.Grow.back {H H' : Hp} {u : Addr} {n : Nat} {f f' : List Addr} (g : Grow H' f f') (b : Bs (u :: f) H H') (hu : Urn H' u n) (nu : u ∉ f) : Grow H f f' := fun x hx => by
  rcases g x hx with z | z
  · exact .inl z
  · by_cases h : x ∈ f
    · exact .inl h
    · right
      cases q : H x with
      | none => rfl
      | some o =>
        have xu : x ≠ u := fun e => Urn.ne_new z hu e
        rw [b _ _ (fun m => by
          rcases List.mem_cons.mp m with e | e
          · exact xu e
          · exact h e) q] at z
        cases z
end My
namespace My
open PySem PySem.Spec PyProof.Rows L2 Z
theorem tight_len (sz : Nat) : ∀ (k : Nat) (bks : List (List Nat)), bks.length ≤ k → Tight sz bks → bks.length / 2 * (sz + 1) ≤ bks.flatten.length
  | _, [], _, _ => by simp
  | _, [a], _, _ => by simp
  | 0, a :: b :: r, h, _ => absurd h (by simp)
  | k + 1, a :: b :: r, h, t => by
    have ih := tight_len sz k r (by simp at h; omega) fun i x y hx hy => t (i + 2) x y hx hy
    have h1 := t 0 a b rfl rfl
    have e : (a :: b :: r).length / 2 = r.length / 2 + 1 := by simp only [List.length_cons]; omega
    rw [e, Nat.succ_mul, List.flatten_cons, List.flatten_cons, List.length_append, List.length_append]
    omega
theorem tight_most {sz : Nat} {bks : List (List Nat)} (t : Tight sz bks) : bks.length ≤ 2 * bks.flatten.length / (sz + 1) + 1 := by
  have h := tight_len sz _ bks (Nat.le_refl _) t
  have h2 : 2 * (bks.length / 2) ≤ 2 * bks.flatten.length / (sz + 1) := by
    rw [Nat.le_div_iff_mul_le (by omega), Nat.mul_assoc]
    exact Nat.mul_le_mul_left 2 h
  omega
theorem len_most {sz : Nat} : ∀ {bks : List (List Nat)}, (∀ l ∈ bks, l.length ≤ sz) → bks.flatten.length ≤ bks.length * sz
  | [], _ => by simp
  | l :: r, h => by
    have ih := len_most (bks := r) fun x hx => h x (List.mem_cons_of_mem _ hx)
    have := h l List.mem_cons_self
    rw [List.flatten_cons, List.length_append, List.length_cons, Nat.succ_mul]
    omega
theorem room_most (sz : Nat) (bks : List (List Nat)) : 3 * (figs sz).length * bks.length + (bks.map fun l => (scode l).length).sum ≤ bks.flatten.length + bks.length * (1 + 3 * (figs sz).length) := by
  have h := room_sum bks
  rw [Nat.mul_add, Nat.mul_one, Nat.mul_comm bks.length]
  omega
theorem tight_mostI {sz : Nat} {bks : List (List Nat)} (t : Tight sz bks) : (bks.length : Int) ≤ 2 * (bks.flatten.length : Int) / ((sz : Int) + 1) + 1 := by
  have h := tight_most t
  have e : 2 * (bks.flatten.length : Int) / ((sz : Int) + 1) = ((2 * bks.flatten.length / (sz + 1) : Nat) : Int) := by
    rw [Int.natCast_ediv]
    rfl
  rw [e]
  omega
theorem len_mostI {sz : Nat} {bks : List (List Nat)} (h : ∀ l ∈ bks, l.length ≤ sz) : (bks.flatten.length : Int) ≤ (bks.length : Int) * (sz : Int) := by
  have := len_most h
  rw [← Int.natCast_mul]
  omega
end My
namespace My
open PySem L2 Z
theorem piece_low {t : List Nat} {a lo hi : Nat} (h1 : a ≤ lo) (h2 : lo ≤ hi) (h3 : hi ≤ t.length) : (t.drop a).take (lo - a) ++ (t.take hi).drop lo = (t.take hi).drop a := by
  have e : (t.drop a).take (lo - a) = ((t.take hi).drop a).take (lo - a) := by
    rw [List.drop_take, List.take_take, Nat.min_eq_left (by omega)]
  have e2 : (t.take hi).drop lo = ((t.take hi).drop a).drop (lo - a) := by
    rw [List.drop_drop]
    congr 1
    omega
  rw [e, e2, List.take_append_drop]
theorem piece_high {t : List Nat} {lo hi d : Nat} (h2 : lo ≤ hi) (h3 : hi ≤ t.length) : (t.take hi).drop lo ++ (t.drop hi).take d = (t.take (min t.length (hi + d))).drop lo := by
  have e : t.take (min t.length (hi + d)) = t.take hi ++ (t.drop hi).take d := by
    rw [← List.take_add, List.take_eq_take_iff]
    omega
  rw [e, List.drop_append_of_le_length (by rw [List.length_take]; omega)]
end My
namespace My
open PySem PySem.Spec PyProof.Rows L2 Z
/-- a change of a row that has grown, behind older changes -/
theorem _root_.Z.Grow.on {H H' : Hp} {u : Addr} {n : Nat} {f g k : List Addr} (a : Grow H f g) (b : Grow H' g k) (c : Bs (u :: f) H H') (hu : Urn H' u n) : Grow H f k := fun x hx => by
  rcases b x hx with z | z
  · exact a x z
  · by_cases h : x ∈ f
    · exact .inl h
    · right
      cases e : H x with
      | none => rfl
      | some o =>
        have xu : x ≠ u := fun w => Urn.ne_new z hu w
        rw [c _ _ (fun mm => by
          rcases List.mem_cons.mp mm with w | w
          · exact xu w
          · exact h w) e] at z
        cases z
theorem _root_.Z.Bs.on {H H' H2 : Hp} {u : Addr} {f g : List Addr} (c : Bs (u :: f) H H') (a : Grow H f g) (b : Bs g H' H2) : Bs (u :: f) H H2 := b.bsu.old c fun x hx => by
  rcases List.mem_cons.mp hx with w | w
  · exact .inl (by rw [w]; exact List.mem_cons_self)
  · rcases a x w with z | z
    · exact .inl (List.mem_cons_of_mem _ z)
    · exact .inr z
end My
namespace My
open PySem PySem.Spec PyProof.Rows L2 Z
/-! the urn as a part of the heap -/
def AUrn (u : Addr) (n : Nat) : Asn := fun h => Urn h u n
theorem _root_.Z.S.urn {u : Addr} {n : Nat} {L : List Asn} {H : Hp} (s : S (AUrn u n :: L) H) : Urn H u n ∧ ∀ H' m, Urn H' u m → But u H H' → S (AUrn u m :: L) H' := by
  obtain ⟨h, x, e⟩ := s.of .head
  have x2 : Urn h u n := x
  refine ⟨x2.ex e, fun H' m hu b => ?_⟩
  refine s.upd (fp := [u]) (fp' := [u]) (fun k y ek z hz => ?_) b.bs (fun z hz => .inl hz) ?_
  · rw [List.mem_singleton.mp hz]
    have y2 : Urn k u n := y
    obtain ⟨_, _, _, q, _⟩ := y2
    exact ⟨_, q, rfl⟩
  · obtain ⟨g, c, k, q, r⟩ := hu
    exact ⟨g, c, k, restr_at (.inl List.mem_cons_self) q, r⟩
theorem _root_.Z.S.newUrn {u : Addr} {n : Nat} {L : List Asn} {H H' : Hp} (s : S L H) (nu : H u = none) (e : Ex H H') (hu : Urn H' u n) : S (AUrn u n :: L) H' := by
  refine s.newp (fp' := [u]) e (fun x hx => by rw [List.mem_singleton.mp hx]; exact nu) ?_
  obtain ⟨g, c, k, q, r⟩ := hu
  exact ⟨g, c, k, restr_at (.inl List.mem_cons_self) q, r⟩
end My
namespace Z
open PySem PySem.Spec PyProof.Rows L2
theorem cut_len (l : List Nat) (lo hi : Option Int) : (cut l lo hi).length ≤ l.length := by
  unfold cut
  rw [List.length_take, List.length_drop]
  omega
theorem cut_mem {l : List Nat} {lo hi : Option Int} {c : Nat} (h : c ∈ cut l lo hi) : c ∈ l := by
  unfold cut at h
  exact List.mem_of_mem_drop (List.mem_of_mem_take h)
section
variable {K : PySem.W.Frag} {H : Hp} {Q : VK}
theorem reprT_ {l : List Nat} (hb : ∀ c ∈ l, c < 1000) (hl : l.length ≤ 1000000) (h : Q (T (shownL (Dt l))) H) : rRepr K [T l] H Q :=
  repr_ (d := Dt l) (Dp.str _) (.more (.str hb) (Nat.le_refl _) (by omega)) (by omega) h
theorem reprB_ {l : List Nat} (hb : Bits l) (hl : l.length ≤ 1000000) (h : Q (T (shownL (Dt l))) H) : rRepr K [T l] H Q := reprT_ hb.lt hl h
theorem reprI_ {i : Int} (h0 : -1000000000000000000 ≤ i) (h1 : i ≤ 1000000000000000000) (h : Q (T (shownL (.int i))) H) : rRepr K [.int i] H Q :=
  repr_ (d := .int i) (Dp.int _) (.more (.int (by omega) (by omega)) (Nat.le_refl _) (by omega)) (by omega) h
theorem ret_tt {R : V → Hp → Prop} {q : Prop} [Decidable q] (hq : q) (h : R (.bl true) H) : R (.bl (decide q)) H := by
  rw [decide_eq_true hq]; exact h
theorem ret_ff {R : V → Hp → Prop} {q : Prop} [Decidable q] (hq : ¬ q) (h : R (.bl false) H) : R (.bl (decide q)) H := by
  rw [decide_eq_false hq]; exact h
end
end Z
namespace My
open PySem PySem.Spec PyProof.Rows L2 Z
/-! ### rows as parts of the heap -/
theorem RowAt.restr {C : Addr} {H : Hp} {r : Addr} {fp : List Addr} {sz : Nat} {bks : List (List Nat)} {op : Int} {hn : Nat} (R : RowAt C H r fp sz bks op hn) : RowAt C (restr fp H) r fp sz bks op hn := by
  obtain ⟨dx, a, b, c, ts, rfl, e1, e2, hd, e3, e4, n⟩ := R.ex
  exact ⟨⟨dx, a, b, c, ts, rfl, restr_at (.inl (by simp)) e1, restr_at (.inl (by simp)) e2, hd.keep fun t xs e => restr_at (.inr rfl) e, restr_at (.inl (by simp)) e3, restr_at (.inl (by simp)) e4, n⟩, R.ok, R.s4, R.s64, R.few⟩
theorem RowAt.mus {C : Addr} {H : Hp} {r : Addr} {fp : List Addr} {sz : Nat} {bks : List (List Nat)} {op : Int} {hn : Nat} (R : RowAt C H r fp sz bks op hn) : ∀ x ∈ fp, ∃ o, H x = some o ∧ mu o = true := fun x hx => by
  rcases R.own x hx with ⟨xs, e⟩ | ⟨C', d, fs, e⟩
  · exact ⟨_, e, rfl⟩
  · exact ⟨_, e, rfl⟩
theorem RowAt.same {C : Addr} {H h : Hp} {r : Addr} {fp gp : List Addr} {sz sz' : Nat} {bks bks' : List (List Nat)} {op op' : Int} {hn hn' : Nat} (R : RowAt C H r fp sz bks op hn) (R' : RowAt C h r gp sz' bks' op' hn') (e : Ex h H) : fp = gp := by
  obtain ⟨dx, a, b, c, ts, rfl, e1, _⟩ := R.ex
  obtain ⟨dx', a', b', c', ts', rfl, e1', _⟩ := R'.ex
  have := e _ _ e1'
  rw [e1] at this
  have q := HO.ins.inj (Option.some.inj this)
  have q3 := q.2.2
  simp only [rowF, List.cons.injEq, Prod.mk.injEq, V.ref.injEq, true_and, and_true] at q3
  obtain ⟨_, h1, h2, _, h3⟩ := q3
  rw [h1, h2, h3]
/-- a row with its blocks -/
def ARowB (C r : Addr) (sz : Nat) (bks : List (List Nat)) (op : Int) : Asn := fun h => (∃ fp, RowAt C h r fp sz bks op bks.flatten.length) ∧ Tight sz bks
/-- a row by its bits -/
def ARow (C r : Addr) (sz : Nat) (l : List Nat) : Asn := fun h => ∃ bks op, ARowB C r sz bks op h ∧ bks.flatten = l
theorem _root_.Z.S.row {C r : Addr} {sz : Nat} {l : List Nat} {L : List Asn} {H : Hp} (s : S (ARow C r sz l :: L) H) : ∃ bks op, bks.flatten = l ∧ S (ARowB C r sz bks op :: L) H := by
  obtain ⟨h, g, ⟨bks, op, a, e⟩, b, c, d, f⟩ := s
  exact ⟨bks, op, e, h, g, a, b, c, d, f⟩
theorem _root_.Z.S.unrow {C r : Addr} {sz : Nat} {bks : List (List Nat)} {op : Int} {L : List Asn} {H : Hp} (s : S (ARowB C r sz bks op :: L) H) : S (ARow C r sz bks.flatten :: L) H := s.imp fun h x => ⟨bks, op, x, rfl⟩
theorem _root_.Z.S.rowB {C r : Addr} {sz : Nat} {bks : List (List Nat)} {op : Int} {L : List Asn} {H : Hp} (s : S (ARowB C r sz bks op :: L) H) : ∃ fp, RowAt C H r fp sz bks op bks.flatten.length ∧ Tight sz bks ∧
    ∀ H' fp' bks' op', RowAt C H' r fp' sz bks' op' bks'.flatten.length → Tight sz bks' → Bs fp H H' → Grow H fp fp' → S (ARowB C r sz bks' op' :: L) H' := by
  obtain ⟨h, x, e⟩ := s.of .head
  obtain ⟨⟨fp, R⟩, t⟩ := x
  have RH := R.exx e
  refine ⟨fp, RH, t, fun H' fp' bks' op' R' t' b gr => ?_⟩
  refine s.upd (fp := fp) (fp' := fp') (fun k y ek z hz => ?_) b gr ⟨⟨fp', R'.restr⟩, t'⟩
  obtain ⟨⟨gp, Rk⟩, _⟩ := y
  rw [RH.same Rk ek] at hz
  exact Rk.mus z hz
theorem _root_.Z.S.newRow {C r : Addr} {sz : Nat} {bks : List (List Nat)} {op : Int} {fp : List Addr} {L : List Asn} {H H' : Hp} (s : S L H) (R : RowAt C H' r fp sz bks op bks.flatten.length) (t : Tight sz bks) (nf : ∀ y ∈ fp, H y = none) (e : Ex H H') : S (ARowB C r sz bks op :: L) H' :=
  s.newp (fp' := fp) e nf ⟨⟨fp, R.restr⟩, t⟩
theorem _root_.Z.S.opened {C r : Addr} {sz : Nat} {bks : List (List Nat)} {op op' : Int} {fp : List Addr} {L : List Asn} {H H' : Hp} (s : S (ARowB C r sz bks op :: L) H) (R : RowAt C H r fp sz bks op bks.flatten.length) (R' : RowAt C H' r fp sz bks op' bks.flatten.length) (b : But r H H') : S (ARowB C r sz bks op' :: L) H' := by
  obtain ⟨gp, G, t, k⟩ := s.rowB
  have e := R.same G (Ex.refl H)
  subst e
  exact k H' fp bks op' R' t (b.bs.mono fun x hx => by rw [List.mem_singleton.mp hx]; exact R.mem) (Grow.refl _ _)
/-- what is known of a row that stands somewhere -/
theorem _root_.Z.S.rowAt {C r : Addr} {sz : Nat} {bks : List (List Nat)} {op : Int} {L M : List Asn} {H : Hp} (s : S L H) (p : Pick (ARowB C r sz bks op) L M) : ∃ fp, RowAt C H r fp sz bks op bks.flatten.length ∧ Tight sz bks := by
  obtain ⟨fp, R, t, _⟩ := (s.pick p).rowB
  exact ⟨fp, R, t⟩
theorem ARow.bits {C r : Addr} {sz : Nat} {l : List Nat} {h : Hp} (x : ARow C r sz l h) : Bits l ∧ l.length ≤ 1000 ∧ 4 ≤ sz ∧ sz ≤ 64 := by
  obtain ⟨bks, op, ⟨⟨fp, R⟩, t⟩, rfl⟩ := x
  refine ⟨fun c hc => ?_, R.few, R.s4, R.s64⟩
  obtain ⟨y, hy, hc⟩ := List.mem_flatten.mp hc
  exact (R.ok y hy).1 c hc
theorem _root_.Z.S.rowBits {C r : Addr} {sz : Nat} {l : List Nat} {L M : List Asn} {H : Hp} (s : S L H) (p : Pick (ARow C r sz l) L M) : Bits l ∧ l.length ≤ 1000 ∧ 4 ≤ sz ∧ sz ≤ 64 := by
  obtain ⟨h, x, _⟩ := s.of p
  exact x.bits
/-- heads are known wherever they stand -/
def AHeads (ts : List Addr) (bks : List (List Nat)) : Asn := fun h => Heads h ts bks
theorem _root_.Z.S.heads {ts : List Addr} {bks : List (List Nat)} {L : List Asn} {H : Hp} (s : S L H) (hd : Heads H ts bks) : S (AHeads ts bks :: L) H :=
  s.newp (fp' := []) (Ex.refl H) (fun x hx => nomatch hx) (hd.keep fun t xs e => restr_at (.inr rfl) e)
theorem _root_.Z.S.headsAt {ts : List Addr} {bks : List (List Nat)} {L M : List Asn} {H : Hp} (s : S L H) (p : Pick (AHeads ts bks) L M) : Heads H ts bks := by
  obtain ⟨h, x, e⟩ := s.of p
  have x2 : Heads h ts bks := x
  exact x2.keep fun t xs q => e _ _ q
end My
namespace My
open PySem PySem.Spec PyProof.Rows L2 Z
theorem _root_.Z.S.rowPick {C r : Addr} {sz : Nat} {l : List Nat} {L M : List Asn} {H : Hp} (s : S L H) (p : Pick (ARow C r sz l) L M) : ∃ fp bks op, RowAt C H r fp sz bks op bks.flatten.length ∧ Tight sz bks ∧ bks.flatten = l ∧
    ∀ H' fp' bks' op', RowAt C H' r fp' sz bks' op' bks'.flatten.length → Tight sz bks' → Bs fp H H' → Grow H fp fp' → S (ARow C r sz bks'.flatten :: M) H' := by
  obtain ⟨bks, op, e, s2⟩ := (s.pick p).row
  obtain ⟨fp, R, t, k⟩ := s2.rowB
  exact ⟨fp, bks, op, R, t, e, fun H' fp' bks' op' R' t' b g => (k H' fp' bks' op' R' t' b g).unrow⟩
theorem _root_.Z.S.rowTurn {C r : Addr} {sz : Nat} {l : List Nat} {L M : List Asn} {H : Hp} (s : S L H) (p : Pick (ARow C r sz l) L M) : ∃ fp bks op, RowAt C H r fp sz bks op bks.flatten.length ∧ bks.flatten = l ∧
    ∀ H' op', RowAt C H' r fp sz bks op' bks.flatten.length → But r H H' → S (ARow C r sz l :: M) H' := by
  obtain ⟨fp, bks, op, R, t, e, k⟩ := s.rowPick p
  exact ⟨fp, bks, op, R, e, fun H' op' R' b => e ▸ k H' fp bks op' R' t (b.bs.mono fun x hx => by rw [List.mem_singleton.mp hx]; exact R.mem) (Grow.refl _ _)⟩
def exB (Q : VK) : VK := fun v H => ∃ c, v = .bl c ∧ Q v H
def exN (Q : VK) : VK := fun v H => ∃ c, v = .bl c ∧ Q (.bl (!c)) H
theorem exB_ {Q : VK} {b : Bool} {H : Hp} (h : Q (.bl b) H) : exB Q (.bl b) H := ⟨b, rfl, h⟩
theorem exN_ {Q : VK} {b : Bool} {H : Hp} (h : Q (.bl (!b)) H) : exN Q (.bl b) H := ⟨b, rfl, h⟩
theorem exN_d {Q : VK} {q : Prop} [Decidable q] {H : Hp} (h : Q (.bl (!decide q)) H) : exN Q (.bl (decide q)) H := ⟨_, rfl, h⟩
section
variable {K : PySem.W.Frag} {C r r2 : Addr} {sz sz2 : Nat} {l l2 : List Nat} {L M N : List Asn} {H : Hp} {m : Str} {t : TA} {q : V → List V → Hp → Prop} {σ : L2.St} {sp : Sp} {gV : List V → List V → List V} {P : VK → VK} {Q : VK} {bks : List (List Nat)} {op : Int}
theorem zmethS_ (s : S L H) (p : Pick (ARow C r sz l) L M) (no : ∀ sz a b op c, (rowF sz a b op c).lookup m = none) (h : t σ H fun vs H2 => q (.ref r) vs H2) : zMeth C m t q σ (.ref r) H := by
  obtain ⟨fp, bks, op, R, _⟩ := s.rowPick p
  exact zmethR_ R no h
theorem zmethSB_ (s : S L H) (p : Pick (ARowB C r sz bks op) L M) (no : ∀ sz a b op c, (rowF sz a b op c).lookup m = none) (h : t σ H fun vs H2 => q (.ref r) vs H2) : zMeth C m t q σ (.ref r) H := by
  obtain ⟨fp, R, _⟩ := s.rowAt p
  exact zmethR_ R no h
theorem ownS_ (s : S L H) (p : Pick (ARow C r sz l) L M) (h : zSp sp (gV [.ref r] []) H (P Q) (fun _ _ _ => False)) : rOwn1 C sp gV P [.ref r] H Q := by
  obtain ⟨fp, bks, op, R, _⟩ := s.rowPick p
  exact ownR_ R h
theorem ownSB_ (s : S L H) (p : Pick (ARowB C r sz bks op) L M) (h : zSp sp (gV [.ref r] []) H (P Q) (fun _ _ _ => False)) : rOwn1 C sp gV P [.ref r] H Q := by
  obtain ⟨fp, R, _⟩ := s.rowAt p
  exact ownR_ R h
theorem eqS_ (s : S L H) (p : Pick (ARow C r sz l) L M) (p2 : Pick (ARow C r2 sz2 l2) L N) (h : zSp sp (gV [.ref r, .ref r2] []) H (exB Q) (fun _ _ _ => False)) : rEqO C sp gV (.ref r) (.ref r2) H Q := by
  obtain ⟨fp, bks, op, R, _⟩ := s.rowPick p
  obtain ⟨fp, bks, op, R2, _⟩ := s.rowPick p2
  exact eqR_ R R2 h
theorem neqS_ (s : S L H) (p : Pick (ARow C r sz l) L M) (p2 : Pick (ARow C r2 sz2 l2) L N) (h : zSp sp (gV [.ref r, .ref r2] []) H (exN Q) (fun _ _ _ => False)) : rNeO C sp gV (.ref r) (.ref r2) H Q := by
  obtain ⟨fp, bks, op, R, _⟩ := s.rowPick p
  obtain ⟨fp, bks, op, R2, _⟩ := s.rowPick p2
  exact neR_ R R2 h
theorem isS_ (s : S L H) (p : Pick (ARow C r sz l) L M) (c : Cls K C) (o : OwnC K C) (h : Q (.bl true) H) : rIsZ K [.ref r, .ref C] H Q := by
  obtain ⟨fp, bks, op, R, _⟩ := s.rowPick p
  exact isR_ R c o h
theorem sizeS_ (s : S L H) (p : Pick (ARow C r sz l) L M) (c : Cls K C) (n : NoAttr K C "size") (h : Q (.int (sz : Nat)) H) : zFld K "size" Q (.ref r) H := by
  obtain ⟨fp, bks, op, R, _⟩ := s.rowPick p
  exact sizeR_ R c n h
end
/-- the sign at a place -/
theorem atI_get {l : List Nat} {i : Int} {c : Nat} (h0 : 0 ≤ i) (h : atI l i = some c) : l[i.toNat]? = some c := by
  by_cases q : i < (l.length : Nat)
  · have e : l[i.toNat]? = some l[i.toNat] := List.getElem?_eq_getElem (by omega)
    have e2 : atI l ((i.toNat : Nat) : Int) = some l[i.toNat] := atI_nat e
    rw [show ((i.toNat : Nat) : Int) = i by omega, h] at e2
    rw [e2]
    exact e
  · have e : atI l i = none := by
      unfold atI ixN
      rw [if_pos h0, if_neg q]
      rfl
    rw [e] at h
    cases h
theorem take_nat (l : List Nat) (i : Int) (h : 0 ≤ i) : l.take i.toNat = cut l none (some i) := (cut_to l i h).symm
end My
namespace My
open PySem PySem.Spec PyProof.Rows L2 Z
theorem _root_.Z.S.urn_out {u : Addr} {n : Nat} {C r : Addr} {sz sz' : Nat} {l : List Nat} {L M N : List Asn} {H : Hp} (s : S L H) (p : Pick (AUrn u n) L M) (q : Pick (ARow C r sz l) M N) {fp : List Addr} {bks : List (List Nat)} {op : Int} {hn : Nat} (R : RowAt C H r fp sz' bks op hn) : u ∉ fp := fun m => by
  obtain ⟨h, g, x, ⟨bks', op', ⟨⟨fp', R'⟩, t⟩, e⟩, c, d, f⟩ := s.apart p q
  have x2 : Urn h u n := x
  obtain ⟨_, _, _, hu, _⟩ := x2
  rw [R.same R' d] at m
  obtain ⟨o, ho, hm⟩ := R'.mus u m
  rw [f _ _ hu rfl] at ho
  cases ho
end My
namespace My
open PySem PySem.Spec PyProof.Rows L2 Z
theorem bit_at {l : List Nat} {i : Int} (hb : Bits l) (h0 : 0 ≤ i) (h1 : i < (l.length : Nat)) : ∃ c, atI l i = some c ∧ (c = 48 ∨ c = 49) := by
  have hc : l[i.toNat]? = some l[i.toNat] := List.getElem?_eq_getElem (by omega)
  refine ⟨_, ?_, hb _ (List.mem_of_getElem? hc)⟩
  have := atI_nat hc
  rwa [Int.toNat_of_nonneg h0] at this
theorem intL_flip {c : Nat} (h : c = 48 ∨ c = 49) : intL (1 - ((c : Int) - 48)) = [97 - c] := by
  rcases h with rfl | rfl
  · rw [show (1 - (((48 : Nat) : Int) - 48)) = ((1 : Nat) : Int) by omega, intL_bit (by omega)]
  · rw [show (1 - (((49 : Nat) : Int) - 48)) = ((0 : Nat) : Int) by omega, intL_bit (by omega)]
theorem cut_bits {l : List Nat} {a b : Option Int} (h : Bits l) : Bits (cut l a b) := fun c hc => h c (cut_mem hc)
theorem cut_short {l : List Nat} {n : Int} {m : Nat} (h0 : 0 ≤ n) (h : n ≤ (m : Nat)) : (cut l none (some n)).length ≤ m := by
  rw [cut_to _ _ h0, List.length_take]
  omega
theorem cut_len_to {l : List Nat} {n : Int} (h0 : 0 ≤ n) (h : n ≤ (l.length : Nat)) : ((cut l none (some n)).length : Int) = n := by
  rw [cut_to _ _ h0, List.length_take]
  omega
theorem bits_rep1 {c : Nat} (h : Bit c) (n : Nat) : Bits (rep [c] n) := Bits.rep (fun d hd => by rw [List.mem_singleton.mp hd]; exact h) n
theorem bits_rep2 {c d : Nat} (h1 : Bit c) (h2 : Bit d) (n : Nat) : Bits (rep [c, d] n) := Bits.rep (fun e he => by
  rcases List.mem_cons.mp he with z | z
  · rw [z]; exact h1
  · rw [List.mem_singleton.mp z]; exact h2) n
end My
/-! M, part X: where a sign stands first -/
namespace Z
open PySem PySem.Spec PyProof.Rows L2
/-- text.index(sign) -/
def rIndexT : V → List V → Hp → VK → Prop := fun x xs H Q => ∃ (l : List Nat) (c n : Nat), x = T l ∧ xs = [T [c]] ∧ l[n]? = some c ∧ (∀ k, k < n → l[k]? ≠ some c) ∧ Q (.int (n : Nat)) H
section
variable {X : Cx} {o e : Expr} {to te : TE}
theorem mt_indexT : MtR X "str.index" rIndexT := by
  intro pins s σ H x xs v us Q I rx rs h
  obtain ⟨l, c, n, rfl, rfl, h1, h2, q⟩ := h
  have at_ : ∀ i, StrLaws.At (⟨l.toArray⟩ : Str) ⟨#[c]⟩ (⟨l.toArray⟩ : Str).length i ↔ l[i]? = some c := fun i => by
    have := StrLaws.subAt_one (⟨l.toArray⟩ : Str) c i
    unfold StrLaws.At
    simpa using this
  rcases StrLaws.occ_head (⟨l.toArray⟩ : Str) ⟨#[c]⟩ 1 (Nat.le_refl _) with ⟨_, no⟩ | ⟨i, r, ho, ha, first⟩
  · exact absurd ((at_ n).mpr h1) (no n)
  · have hi := (at_ i).mp ha
    have e : i = n := by
      rcases Nat.lt_trichotomy i n with z | z | z
      · exact absurd hi (h2 i z)
      · exact z
      · exact absurd ((at_ n).mpr h1) (first n z)
    subst e
    exact mt_sindex pins s σ H _ _ v us Q I rx rs ⟨⟨l.toArray⟩, ⟨#[c]⟩, i, r, rfl, rfl, ho, q⟩
theorem z_index {apos pos : Pos} (ho : PE X o to) (he : PE X e te) (hs : starEach [e] X.env = [(false, eval e X.env)] := by rfl) (hbase : attributeBase o "index" X.env (eval o X.env) = eval o X.env := by rfl) (hline : (apos.endLine == pos.line) = true := by rfl) :
    PE X (.Call (.Attribute o "index" apos) [e] [] pos) (tM1 rIndexT to te) :=
  pe_m1 PySem.F.slot_str_index PySem.F.type_str_index mt_indexT ho he hs hbase hline
end
section
variable {H : Hp} {Q : VK}
theorem index_ {l : List Nat} {c n : Nat} (h1 : l[n]? = some c) (h2 : ∀ k, k < n → l[k]? ≠ some c) (q : Q (.int (n : Nat)) H) : rIndexT (T l) [T [c]] H Q := ⟨l, c, n, rfl, rfl, h1, h2, q⟩
end
open My in
theorem spot0 {c : Nat} : ∀ {l : List Nat} {i : Nat}, spot c l 0 = some i → l[i]? = some c ∧ ∀ k, k < i → l[k]? ≠ some c
  | [], i, h => by cases h
  | x :: r, i, h => by
    unfold spot at h
    rw [spots] at h
    by_cases q : x = c
    · rw [if_pos q] at h
      cases h
      exact ⟨by rw [q]; rfl, fun k hk => absurd hk (Nat.not_lt_zero _)⟩
    · rw [if_neg q, List.nil_append, List.getElem?_map] at h
      cases e : (spots c r)[0]? with
      | none => rw [e] at h; cases h
      | some j =>
        rw [e] at h
        cases h
        obtain ⟨h1, h2⟩ := spot0 (c := c) (l := r) (i := j) e
        refine ⟨by simpa using h1, fun k hk => ?_⟩
        cases k with
        | zero => intro z; exact q (Option.some.inj z)
        | succ k =>
          have hk : k + 1 < j + 1 := hk
          simpa using h2 k (by omega)
end Z
namespace My
open PySem PySem.Spec PyProof.Rows L2 Z
/-! trees as bits: depths at places -/
/-- the depth ahead of a place -/
abbrev dpt (l : List Nat) (i : Nat) : Int := dep (l.take i)
theorem dpt_zero (l : List Nat) : dpt l 0 = 0 := by simp [dpt, dep]
theorem dpt_succ {l : List Nat} {i c : Nat} (h : l[i]? = some c) : dpt l (i + 1) = dpt l i + (if c = 49 then 1 else -1) := dep_take h
theorem dpt_open {l : List Nat} {i : Nat} (h : l[i]? = some 49) : dpt l (i + 1) = dpt l i + 1 := by rw [dpt_succ h, if_pos rfl]
theorem dpt_shut {l : List Nat} {i : Nat} (h : l[i]? = some 48) : dpt l (i + 1) = dpt l i - 1 := by rw [dpt_succ h, if_neg (by decide)]; rfl
/-- the first place from one on behind which the depth is a wished one -/
def fst1 (l : List Nat) (a : Nat) (g : Int) : Option Nat := (List.range l.length).find? fun j => decide (a ≤ j) && decide (dpt l (j + 1) = g)
theorem find_range {p : Nat → Bool} : ∀ {n j : Nat}, (List.range n).find? p = some j ↔ j < n ∧ p j = true ∧ ∀ k, k < j → p k = false := by
  intro n j
  rw [List.find?_eq_some_iff_getElem]
  constructor
  · rintro ⟨h1, i, hi, h2, h3⟩
    rw [List.getElem_range] at h2
    subst h2
    rw [List.length_range] at hi
    exact ⟨hi, h1, fun k hk => by have := h3 k hk; rw [List.getElem_range] at this; simpa using this⟩
  · rintro ⟨h1, h2, h3⟩
    refine ⟨h2, j, by simpa using h1, by simp, fun k hk => ?_⟩
    rw [List.getElem_range]
    simpa using h3 k hk
theorem fst1_some {l : List Nat} {a j : Nat} {g : Int} : fst1 l a g = some j ↔ j < l.length ∧ a ≤ j ∧ dpt l (j + 1) = g ∧ ∀ k, a ≤ k → k < j → dpt l (k + 1) ≠ g := by
  unfold fst1
  rw [find_range]
  constructor
  · rintro ⟨h1, h2, h3⟩
    simp only [Bool.and_eq_true, decide_eq_true_eq] at h2
    refine ⟨h1, h2.1, h2.2, fun k k0 k1 e => ?_⟩
    have := h3 k k1
    simp [k0, e] at this
  · rintro ⟨h1, h2, h3, h4⟩
    refine ⟨h1, by simp [h2, h3], fun k k1 => ?_⟩
    by_cases q : a ≤ k
    · simp [h4 k q k1]
    · simp [q]
theorem fst1_none {l : List Nat} {a : Nat} {g : Int} (h : ∀ k, a ≤ k → k < l.length → dpt l (k + 1) ≠ g) : fst1 l a g = none := by
  unfold fst1
  rw [List.find?_eq_none]
  intro k hk
  rw [List.mem_range] at hk
  by_cases q : a ≤ k
  · simp [h k q hk]
  · simp [q]
/-- the last place ahead of one, not the first of all, ahead of which the depth is a wished one; else 0 -/
def lst1 (l : List Nat) (a : Nat) (g : Int) : Nat := (((List.range a).filter fun j => decide (0 < j) && decide (dpt l j = g)).getLast?).getD 0
theorem lst1_of {l : List Nat} {a j : Nat} {g : Int} (h0 : 0 < j) (h1 : j < a) (h2 : dpt l j = g) (h3 : ∀ k, j < k → k < a → dpt l k ≠ g) : lst1 l a g = j := by
  unfold lst1
  have e : List.range a = List.range (j + 1) ++ (List.range (a - (j + 1))).map (j + 1 + ·) := by
    rw [← List.range_add]; congr 1; omega
  rw [e, List.filter_append]
  have e2 : ((List.range (a - (j + 1))).map (j + 1 + ·)).filter (fun j => decide (0 < j) && decide (dpt l j = g)) = [] := by
    rw [List.filter_eq_nil_iff]
    intro x hx
    obtain ⟨y, hy, rfl⟩ := List.mem_map.mp hx
    rw [List.mem_range] at hy
    simp [h3 (j + 1 + y) (by omega) (by omega)]
  rw [e2, List.append_nil, List.range_succ, List.filter_append, List.filter_cons]
  simp [h0, h2]
theorem lst1_zero {l : List Nat} {a : Nat} {g : Int} (h : ∀ k, 0 < k → k < a → dpt l k ≠ g) : lst1 l a g = 0 := by
  unfold lst1
  have e2 : (List.range a).filter (fun j => decide (0 < j) && decide (dpt l j = g)) = [] := by
    rw [List.filter_eq_nil_iff]
    intro x hx
    rw [List.mem_range] at hx
    by_cases q : 0 < x
    · simp [h x q hx]
    · simp [q]
  rw [e2]
  rfl
/-- a place or none, as a value -/
def optV : Option Nat → V
  | some n => .int (n : Nat)
  | none => .non
/-! ### tuples that a list names -/
def ATups (us : List Addr) (xss : List (List V)) : Asn := fun h => us.length = xss.length ∧ ∀ (i : Nat) (u : Addr) (xs : List V), us[i]? = some u → xss[i]? = some xs → h u = some (.tup xs)
theorem _root_.Z.S.imm {A : Asn} {L : List Asn} {H : Hp} (s : S L H) (a : A (restr [] H)) : S (A :: L) H := s.newp (fp' := []) (Ex.refl H) (fun x hx => nomatch hx) a
theorem _root_.Z.S.tups {us : List Addr} {xss : List (List V)} {L M : List Asn} {H : Hp} (s : S L H) (p : Pick (ATups us xss) L M) : us.length = xss.length ∧ ∀ (i : Nat) (u : Addr) (xs : List V), us[i]? = some u → xss[i]? = some xs → H u = some (.tup xs) := by
  obtain ⟨h, x, e⟩ := s.of p
  exact ⟨x.1, fun i u xs h1 h2 => e _ _ (x.2 i u xs h1 h2)⟩
theorem _root_.Z.S.noTups {L : List Asn} {H : Hp} (s : S L H) : S (ATups [] [] :: L) H := s.imm ⟨rfl, fun i u xs h => nomatch h⟩
theorem _root_.Z.S.addTup {us : List Addr} {xss : List (List V)} {u : Addr} {xs : List V} {L : List Asn} {H : Hp} (s : S (ATups us xss :: L) H) (e : H u = some (.tup xs)) : S (ATups (us ++ [u]) (xss ++ [xs]) :: L) H := by
  obtain ⟨l1, l2⟩ := s.tups .head
  refine s.drop.imm ⟨by rw [List.length_append, List.length_append, l1]; rfl, fun i v ys h1 h2 => restr_at (.inr rfl) ?_⟩
  by_cases q : i < us.length
  · rw [List.getElem?_append_left q] at h1
    rw [List.getElem?_append_left (by omega)] at h2
    exact l2 i v ys h1 h2
  · rw [List.getElem?_append_right (by omega)] at h1
    rw [List.getElem?_append_right (by omega), ← l1] at h2
    have q0 : i - us.length = 0 := by
      have := (List.getElem?_eq_some_iff.mp h1).1
      simpa using this
    rw [q0] at h1 h2
    cases h1
    cases h2
    exact e
/-! ### the blocks of a row, told -/
def ABks (us : List Addr) (bks : List (List Nat)) : Asn := fun h => us.length = bks.length ∧ ∀ (i : Nat) (u : Addr) (x : List Nat), us[i]? = some u → bks[i]? = some x →
  ∃ m : Int, Least m x ∧ h u = some (.tup [.int ((bks.take i).flatten.length : Nat), .int (dep (bks.take i).flatten), .int (dep (bks.take i).flatten + m), T (scode x)])
theorem _root_.Z.S.bks {us : List Addr} {bks : List (List Nat)} {L M : List Asn} {H : Hp} (s : S L H) (p : Pick (ABks us bks) L M) : us.length = bks.length ∧ ∀ (i : Nat) (u : Addr) (x : List Nat), us[i]? = some u → bks[i]? = some x →
    ∃ m : Int, Least m x ∧ H u = some (.tup [.int ((bks.take i).flatten.length : Nat), .int (dep (bks.take i).flatten), .int (dep (bks.take i).flatten + m), T (scode x)]) := by
  obtain ⟨h, x, e⟩ := s.of p
  exact ⟨x.1, fun i u xs h1 h2 => by obtain ⟨m, hm, hu⟩ := x.2 i u xs h1 h2; exact ⟨m, hm, e _ _ hu⟩⟩
end My
/-! the signs of a thing's text are small -/
namespace Z
open PySem PySem.Spec PyProof.Rows L2 Builtin Builtin.Str
def Sk (s : Str) : Prop := ∀ c ∈ s.cps.toList, c < 1000
theorem Sk.app {a b : Str} (x : Sk a) (y : Sk b) : Sk (a ++ b) := fun c hc => by
  have e : (a ++ b).cps.toList = a.cps.toList ++ b.cps.toList := by show (a.cps ++ b.cps).toList = _; rw [Array.toList_append]
  rw [e] at hc
  exact (List.mem_append.mp hc).elim (x c) (y c)
theorem Sk.of {s : Str} (h : (s.cps.toList.all fun c => decide (c < 1000)) = true) : Sk s := fun c hc => of_decide_eq_true (List.all_eq_true.mp h c hc)
theorem digit_small : ∀ d : Nat, d < 16 → (Nat.digitChar d).toNat < 1000 := by decide
theorem hexCore_small : ∀ (fuel n : Nat) (ds : List Char), (∀ e ∈ ds, e.toNat < 1000) → ∀ e ∈ Nat.toDigitsCore 16 fuel n ds, e.toNat < 1000
  | 0, n, ds, h => by simpa [Nat.toDigitsCore] using h
  | fuel + 1, n, ds, h => by
    unfold Nat.toDigitsCore
    have h2 : ∀ e ∈ Nat.digitChar (n % 16) :: ds, e.toNat < 1000 := fun e he => by
      rcases List.mem_cons.mp he with z | z
      · rw [z]; exact digit_small _ (Nat.mod_lt _ (by decide))
      · exact h e z
    by_cases h0 : n / 16 = 0
    · simp only [h0, if_true]; exact h2
    · simp only [h0, if_false]; exact hexCore_small fuel _ _ h2
theorem hex_small {w c : Nat} : ∀ e ∈ List.replicate (w - ((Nat.toDigits 16 c).map Char.toNat).length) 48 ++ (Nat.toDigits 16 c).map Char.toNat, e < 1000 := fun e he => by
  rcases List.mem_append.mp he with z | z
  · rw [List.eq_of_mem_replicate z]; decide
  · obtain ⟨x, hx, rfl⟩ := List.mem_map.mp z
    exact hexCore_small _ _ [] (fun _ h => nomatch h) x hx
theorem reprChar_small {q c : Nat} (hq : q < 1000) (hc : c < 1000) : ∀ e ∈ reprChar q c, e < 1000 := by
  unfold reprChar
  dsimp only
  repeat' split
  all_goals
    intro e he
    first
    | (rcases List.mem_append.mp he with z | z
       · revert z; simp only [List.mem_cons, List.not_mem_nil, or_false]; omega
       · exact hex_small e z)
    | (revert he; simp only [List.mem_cons, List.not_mem_nil, or_false]; omega)
theorem foldl_small {q : Nat} (hq : q < 1000) : ∀ (l : List Nat) (acc : Array Nat), (∀ c ∈ l, c < 1000) → (∀ e ∈ acc.toList, e < 1000) → ∀ e ∈ (l.foldl (fun out c => out ++ (reprChar q c).toArray) acc).toList, e < 1000
  | [], acc, _, h => h
  | c :: r, acc, h, h2 => by
    rw [List.foldl_cons]
    refine foldl_small hq r _ (fun d hd => h d (List.mem_cons_of_mem _ hd)) fun e he => ?_
    rw [Array.toList_append] at he
    rcases List.mem_append.mp he with z | z
    · exact h2 e z
    · exact reprChar_small hq (h c List.mem_cons_self) e z
theorem reprText_small {x : Str} (h : Sk x) : Sk (reprText x) := fun e he => by
  have hq : reprQuote x < 1000 := by unfold reprQuote; split <;> decide
  unfold reprText at he
  have he : e ∈ ((x.cps.foldl (fun out c => out ++ (reprChar (reprQuote x) c).toArray) #[reprQuote x]).push (reprQuote x)).toList := he
  rw [Array.toList_push, ← Array.foldl_toList] at he
  rcases List.mem_append.mp he with z | z
  · exact foldl_small hq x.cps.toList #[reprQuote x] h (fun c hc => by
      have : c = reprQuote x := by simpa using hc
      rw [this]; exact hq) e z
  · rw [List.mem_singleton.mp z]; exact hq
theorem join_small {sep : Str} (hs : Sk sep) : ∀ {ts : List Str}, (∀ t ∈ ts, Sk t) → Sk (Str.join sep ts)
  | [], _ => fun c hc => by
    have : ((Str.join sep []).cps).toList = [] := rfl
    rw [this] at hc; cases hc
  | [x], h => h x List.mem_cons_self
  | x :: y :: r, h => by
    have e : Str.join sep (x :: y :: r) = x ++ sep ++ Str.join sep (y :: r) := rfl
    rw [e]
    exact ((h x List.mem_cons_self).app hs).app (join_small hs fun t ht => h t (List.mem_cons_of_mem _ ht))
theorem rp_small {d : PyData} {n k : Nat} (r : Rp d n k) : Sk d.shown := by
  induction r with
  | non => simp only [PyData.shown]; exact Sk.of (by decide +kernel)
  | bl b => simp only [PyData.shown]; cases b <;> exact Sk.of (by decide +kernel)
  | int h1 h2 =>
    simp only [PyData.shown]
    rename_i i
    intro c hc
    apply Classical.byContradiction
    intro z
    exact int_text_free' c ⟨by omega, by omega⟩ i hc
  | str h => simp only [PyData.shown]; exact reprText_small fun c hc => h c (by simpa using hc)
  | lst h ih =>
    simp only [PyData.shown]
    rw [shownAll_map, listText_eq_join]
    refine ((Sk.of (by decide +kernel)).app (join_small (Sk.of (by decide +kernel)) fun t ht => ?_)).app (Sk.of (by decide +kernel))
    obtain ⟨d, hd, rfl⟩ := List.mem_map.mp ht
    exact ih d hd
  | tup h ih =>
    simp only [PyData.shown]
    rw [shownAll_map]
    unfold tupleText
    refine ((Sk.of (by decide +kernel)).app (join_small (Sk.of (by decide +kernel)) fun t ht => ?_)).app (by split <;> exact Sk.of (by decide +kernel))
    obtain ⟨d, hd, rfl⟩ := List.mem_map.mp ht
    exact ih d hd
  | more r l g ih => exact ih
theorem shownL_small {d : PyData} {n k : Nat} (r : Rp d n k) : ∀ c ∈ shownL d, c < 1000 := rp_small r
end Z
/-! any odd thing: no text -/
namespace My
open PySem PySem.Spec PyProof.Rows L2 Z
inductive Odd (H : Hp) : V → Prop
  | non : Odd H .non
  | bl (b : Bool) : Odd H (.bl b)
  | int (i : Int) : Odd H (.int i)
  | lst {a : Addr} {xs : List V} (e : H a = some (.lst xs)) : Odd H (.ref a)
  | tup {a : Addr} {xs : List V} (e : H a = some (.tup xs)) : Odd H (.ref a)
theorem Odd.up {H H' : Hp} {v : V} (o : Odd H v) (e : Ex H H') : Odd H' v := by
  cases o with
  | non => exact .non
  | bl b => exact .bl b
  | int i => exact .int i
  | lst h => exact .lst (e _ _ h)
  | tup h => exact .tup (e _ _ h)
/-! ### data, wherever it stands -/
mutual
theorem dp_up {K : PySem.W.Frag} {H H' : Hp} (e : Ex H H') : ∀ {v : V} {d : PyData}, Dp K H v d → Dp K H' v d
  | _, .none, .non => .non
  | _, .bool _, .bl b => .bl b
  | _, .int _, .int i => .int i
  | _, .str _, .str x => .str x
  | _, .list _, .lst h a => .lst (e.seqL h) (dpa_up e a)
  | _, .tuple _, .tup h a => .tup (e.seqT h) (dpa_up e a)
theorem dpa_up {K : PySem.W.Frag} {H H' : Hp} (e : Ex H H') : ∀ {vs : List V} {ds : List PyData}, DpAll K H vs ds → DpAll K H' vs ds
  | [], [], .nil => .nil
  | _ :: _, _ :: _, .cons h a => .cons (dp_up e h) (dpa_up e a)
end
/-- a small thing without parts -/
def smallD : PyData → Bool
  | .none => true
  | .bool _ => true
  | .int i => decide (-100 < i) && decide (i < 100)
  | .str s => decide (s.length ≤ 5) && s.cps.toList.all fun c => decide (c < 128)
  | _ => false
theorem smallD_rp {d : PyData} (h : smallD d = true) : Rp d 60 1 := by
  cases d with
  | none => exact .more .non (by decide) (by decide)
  | bool b => exact .more (.bl b) (by decide) (by decide)
  | int i =>
    simp only [smallD, Bool.and_eq_true, decide_eq_true_eq] at h
    exact .more (.int (by omega) (by omega)) (by decide) (by decide)
  | str s =>
    simp only [smallD, Bool.and_eq_true, decide_eq_true_eq, List.all_eq_true] at h
    have e : PyData.str s = Dt s.cps.toList := by show PyData.str s = PyData.str _; exact congrArg _ (str_eta s).symm
    rw [e]
    have hl : s.cps.toList.length ≤ 5 := by have := h.1; rw [Array.length_toList]; exact this
    exact .more (.str fun c hc => by have := h.2 c hc; omega) (by omega) (by decide)
  | list _ => cases h
  | tuple _ => cases h
  | dict _ => cases h
/-- a thing and what it is: a text, or another thing -/
def Th (n : Nat) (H : Hp) (w : V × PyData) : Prop := (∀ K, Dp K H w.1 w.2) ∧ Rp w.2 n 5 ∧ ((∃ x : List Nat, w = (T x, Dt x) ∧ x.length ≤ n ∧ ∀ c ∈ x, c < 128) ∨ Odd H w.1)
theorem Th.up {n : Nat} {H H' : Hp} {w : V × PyData} (t : Th n H w) (e : Ex H H') : Th n H' w := ⟨fun K => dp_up e (t.1 K), t.2.1, t.2.2.imp id fun o => o.up e⟩
theorem Th.more {n m : Nat} {H : Hp} {w : V × PyData} (t : Th n H w) (h : n ≤ m) : Th m H w := ⟨t.1, t.2.1.more h (Nat.le_refl _), t.2.2.imp (fun ⟨x, a, b, c⟩ => ⟨x, a, Nat.le_trans b h, c⟩) id⟩
theorem th_txt {n : Nat} {H : Hp} {x : List Nat} (h1 : 10 * x.length + 2 ≤ n) (h2 : ∀ c ∈ x, c < 128) : Th n H (T x, Dt x) :=
  ⟨fun K => .str _, .more (.str fun c hc => by have := h2 c hc; omega) h1 (by decide), .inl ⟨x, rfl, by omega, h2⟩⟩
theorem Th.odd {n : Nat} {H H' : Hp} {w : V × PyData} (t : Th n H' w) (o : Odd H w.1) : Odd H' w.1 := t.2.2.elim (fun ⟨x, e, _⟩ => by rw [e] at o; cases o) id
def AOdd (v : V) (d : PyData) : Asn := fun h => Th 300 h (v, d)
def AThs (n : Nat) (ws : List (V × PyData)) : Asn := fun h => ∀ w ∈ ws, Th n h w
theorem _root_.Z.S.oddT {x : List Nat} {L : List Asn} {H : Hp} (s : S L H) (h1 : x.length ≤ 10) (h2 : (x.all fun c => decide (c < 128)) = true) : S (AOdd (T x) (Dt x) :: L) H := s.imm (th_txt (by omega) fun c hc => of_decide_eq_true (List.all_eq_true.mp h2 c hc))
theorem _root_.Z.S.oddN {L : List Asn} {H : Hp} (s : S L H) : S (AOdd .non .none :: L) H := s.imm ⟨fun K => .non, .more .non (by decide) (by decide), .inr .non⟩
theorem _root_.Z.S.oddB {b : Bool} {L : List Asn} {H : Hp} (s : S L H) : S (AOdd (.bl b) (.bool b) :: L) H := s.imm ⟨fun K => .bl b, .more (.bl b) (by decide) (by decide), .inr (.bl b)⟩
theorem _root_.Z.S.oddI {i : Int} {L : List Asn} {H : Hp} (s : S L H) (h : (decide (-100 < i) && decide (i < 100)) = true) : S (AOdd (.int i) (.int i) :: L) H := by
  simp only [Bool.and_eq_true, decide_eq_true_eq] at h
  exact s.imm ⟨fun K => .int i, .more (.int (by omega) (by omega)) (by decide) (by decide), .inr (.int i)⟩
theorem _root_.Z.S.oddL {a : Addr} {xs : List V} {ds : List PyData} {L M : List Asn} {H : Hp} (s : S L H) (p : Pick (pts a (.lst xs)) L M) (hd : ∀ K h, DpAll K h xs ds) (h1 : ds.length ≤ 3) (h2 : ds.all smallD = true) : S (AOdd (.ref a) (.list ds) :: M) H :=
  (s.pull p).imp fun h e => ⟨fun K => .lst (SqL.of e) (hd K h), .more (.lst (n := 60) (k := 1) fun d q => smallD_rp (List.all_eq_true.mp h2 d q)) (by omega) (by decide), .inr (.lst e)⟩
theorem _root_.Z.S.oddU {a : Addr} {xs : List V} {ds : List PyData} {L M : List Asn} {H : Hp} (s : S L H) (p : Pick (pts a (.tup xs)) L M) (hd : ∀ K h, DpAll K h xs ds) (h1 : ds.length ≤ 3) (h2 : ds.all smallD = true) : S (AOdd (.ref a) (.tuple ds) :: M) H :=
  (s.pull p).imp fun h e => ⟨fun K => .tup (SqT.of e) (hd K h), .more (.tup (n := 60) (k := 1) fun d q => smallD_rp (List.all_eq_true.mp h2 d q)) (by omega) (by decide), .inr (.tup e)⟩
theorem _root_.Z.S.oddV {a b : Addr} {L M N : List Asn} {H : Hp} (s : S L H) (p : Pick (pts a (.tup [.ref b])) L M) (q : Pick (pts b (.tup [])) L N) : S (AOdd (.ref a) (.tuple [.tuple []]) :: L) H := by
  have ea : restr [] H a = some (.tup [.ref b]) := restr_at (.inr rfl) (s.at_ p)
  have eb : restr [] H b = some (.tup []) := restr_at (.inr rfl) (s.at_ q)
  exact s.imm ⟨fun K => .tup (SqT.of ea) (.cons (.tup (SqT.of eb) .nil) .nil), .more (.tup (n := 4) (k := 1) fun d hd => by rw [List.mem_singleton.mp hd]; exact .more (.tup (n := 0) (k := 0) fun d hd => nomatch hd) (by decide) (by decide)) (by decide) (by decide), .inr (.tup ea)⟩
theorem oddL_to {a : Addr} {xs : List V} {ds : List PyData} {L M N : List Asn} {H : Hp} (s : S L H) (p : Pick (pts a (.lst xs)) L M) (hd : ∀ K h, DpAll K h xs ds) (h1 : ds.length ≤ 3) (h2 : ds.all smallD = true) (b : Sub N M) : S (AOdd (.ref a) (.list ds) :: N) H := (s.oddL p hd h1 h2).to (.cons .head b)
theorem oddU_to {a : Addr} {xs : List V} {ds : List PyData} {L M N : List Asn} {H : Hp} (s : S L H) (p : Pick (pts a (.tup xs)) L M) (hd : ∀ K h, DpAll K h xs ds) (h1 : ds.length ≤ 3) (h2 : ds.all smallD = true) (b : Sub N M) : S (AOdd (.ref a) (.tuple ds) :: N) H := (s.oddU p hd h1 h2).to (.cons .head b)
theorem oddV_to {a b : Addr} {L M N O : List Asn} {H : Hp} (s : S L H) (p : Pick (pts a (.tup [.ref b])) L M) (q : Pick (pts b (.tup [])) L N) (r : Sub O L) : S (AOdd (.ref a) (.tuple [.tuple []]) :: O) H := (s.oddV p q).to (.cons .head r)
/-- signs of a small kind -/
def Sm (x : List Nat) : Prop := ∀ c ∈ x, c < 128
theorem Sm.app {x y : List Nat} (a : Sm x) (b : Sm y) : Sm (x ++ y) := fun c hc => (List.mem_append.mp hc).elim (a c) (b c)
theorem Sm.cut {x : List Nat} {a b : Option Int} (h : Sm x) : Sm (cut x a b) := fun c hc => h c (cut_mem hc)
theorem Sm.rep {x : List Nat} (h : Sm x) (n : Nat) : Sm (rep x n) := fun c hc => by
  induction n with
  | zero => cases hc
  | succ n ih => exact (List.mem_append.mp hc).elim (h c) ih
theorem Sm.one {c : Nat} (h : c < 128) : Sm [c] := fun d hd => by rw [List.mem_singleton.mp hd]; exact h
theorem Sm.of {x : List Nat} (h : (x.all fun c => decide (c < 128)) = true) : Sm x := fun c hc => of_decide_eq_true (List.all_eq_true.mp h c hc)
theorem rp_pair {a b : PyData} {n m k : Nat} (ha : Rp a n 1) (hb : Rp b n 1) (h1 : 2 * (n + 2) + 4 ≤ m) (h2 : 2 ≤ k) : Rp (.tuple [a, b]) m k := .more (.tup (n := n) (k := 1) fun d hd => by
  rcases List.mem_cons.mp hd with z | z
  · rw [z]; exact ha
  · rw [List.mem_singleton.mp z]; exact hb) h1 h2
theorem Sm.rp {x : List Nat} (h : Sm x) {n : Nat} (hn : 10 * x.length + 2 ≤ n) : Rp (Dt x) n 1 := .more (.str fun c hc => by have := h c hc; omega) hn (Nat.le_refl _)
/-- two parts told as one -/
theorem _root_.Z.S.both {A B C : Asn} {L : List Asn} {H : Hp} (s : S (A :: B :: L) H) (i : ∀ h a b, A a → B b → Ex a h → Ex b h → C h) : S (C :: L) H := by
  refine (S.fold (L := [A, B]) s).imp fun h ⟨a, g, x, ⟨b, g2, y, _, e1, _, _⟩, e2, e3, _⟩ => i h a b x y e2 (e1.trans e3)
theorem _root_.Z.S.noThs {n : Nat} {L : List Asn} {H : Hp} (s : S L H) : S (AThs n [] :: L) H := s.imm fun w hw => nomatch hw
theorem _root_.Z.S.thsT {n : Nat} {ws : List (V × PyData)} {L : List Asn} {H : Hp} {x : List Nat} (s : S (AThs n ws :: L) H) (h1 : 10 * x.length + 2 ≤ n) (h2 : ∀ c ∈ x, c < 128) : S (AThs n (ws ++ [(T x, Dt x)]) :: L) H :=
  s.imp fun h a w hw => by
    rcases List.mem_append.mp hw with z | z
    · exact a w z
    · rw [List.mem_singleton.mp z]; exact th_txt h1 h2
theorem _root_.Z.S.thsO {n : Nat} {ws : List (V × PyData)} {L M : List Asn} {H : Hp} {v : V} {d : PyData} (s : S (AThs n ws :: L) H) (p : Pick (AOdd v d) L M) (h1 : 300 ≤ n) : S (AThs n (ws ++ [(v, d)]) :: M) H :=
  (s.pull2 .head p).both fun h a b x y e1 e2 w hw => by
    rcases List.mem_append.mp hw with z | z
    · exact (x w z).up e1
    · rw [List.mem_singleton.mp z]; exact (Th.up y e2).more h1
/-- a list of signs -/
theorem _root_.Z.S.thsL {n : Nat} {ws : List (V × PyData)} {L M : List Asn} {H : Hp} {a : Addr} {l : List Nat} (s : S (AThs n ws :: L) H) (p : Pick (pts a (.lst (l.map fun c => T [c]))) L M) (h1 : 14 * l.length + 4 ≤ n) (h2 : ∀ c ∈ l, c < 128) : S (AThs n (ws ++ [(.ref a, .list (l.map fun c => Dt [c]))]) :: M) H :=
  (s.pull2 .head p).both fun h g b x y e1 e2 w hw => by
    rcases List.mem_append.mp hw with z | z
    · exact (x w z).up e1
    · rw [List.mem_singleton.mp z]
      have e3 : h a = some (.lst (l.map fun c => T [c])) := e2 _ _ y
      have hd : ∀ (K : PySem.W.Frag) (l : List Nat), DpAll K h (l.map fun c => T [c]) (l.map fun c => Dt [c]) := fun K l => by
        induction l with
        | nil => exact .nil
        | cons c l ih => exact .cons (.str _) ih
      refine ⟨fun K => .lst (SqL.of e3) (hd K l), ?_, .inr (.lst e3)⟩
      refine .more (.lst (n := 12) (k := 1) fun d q => ?_) (by rw [List.length_map]; omega) (by decide)
      obtain ⟨c, hc, rfl⟩ := List.mem_map.mp q
      exact .more (.str fun e he => by rw [List.mem_singleton.mp he]; have := h2 c hc; omega) (by simp) (by decide)
theorem _root_.Z.S.thsTs {n : Nat} {ws : List (V × PyData)} {L : List Asn} {H : Hp} (s : S (AThs n ws :: L) H) : ∀ {ys : List (List Nat)}, (∀ y ∈ ys, 10 * y.length + 2 ≤ n ∧ Sm y) → S (AThs n (ws ++ ys.map fun y => (T y, Dt y)) :: L) H := fun {ys} h =>
  s.imp fun h2 a w hw => by
    rcases List.mem_append.mp hw with z | z
    · exact a w z
    · obtain ⟨y, hy, rfl⟩ := List.mem_map.mp z
      exact th_txt (h y hy).1 (h y hy).2
theorem cutW (W : List (V × PyData)) (lo hi : Option Int) : ∃ k : List (V × PyData), cutV (W.map Prod.fst) lo hi = k.map Prod.fst ∧ (∀ w ∈ k, w ∈ W) ∧ k.length ≤ W.length := by
  unfold cutV
  refine ⟨_, by rw [← List.map_drop, ← List.map_take], fun x hx => List.mem_of_mem_drop (List.mem_of_mem_take hx), by rw [List.length_take, List.length_drop]; omega⟩
theorem _root_.Z.S.th {n : Nat} {ws : List (V × PyData)} {L M : List Asn} {H : Hp} {w : V × PyData} (s : S L H) (p : Pick (AThs n ws) L M) (h : w ∈ ws) : Th n H w := by
  obtain ⟨g, x, e⟩ := s.of p
  exact (x w h).up e
theorem _root_.Z.S.ths {n : Nat} {ws : List (V × PyData)} {L M : List Asn} {H : Hp} (s : S L H) (p : Pick (AThs n ws) L M) : ∀ w ∈ ws, Th n H w := fun w h => s.th p h
section
variable {K : PySem.W.Frag} {H : Hp} {Q : VK} {v : V}
theorem isStrO_ (o : Odd H v) (h : Q (.bl false) H) : rIsZ K [v, .ty "str"] H Q := by
  cases o with
  | non => exact isB_ (a := "NoneType") (.base .non) (by decide +kernel) h
  | bl b => exact isB_ (a := "bool") (.base (.bl _)) (by decide +kernel) h
  | int i => exact isB_ (a := "int") (.base (.int _)) (by decide +kernel) h
  | lst e => exact isB_ (a := "list") (.base (.lst e)) (by decide +kernel) h
  | tup e => exact isB_ (a := "tuple") (.base (.tup e)) (by decide +kernel) h
end
end My
namespace Z
open PySem PySem.Spec PyProof.Rows L2
/-! ### list of a text -/
def rListT : List V → Hp → VK → Prop := fun xs H Q => ∃ l : List Nat, xs = [T l] ∧ l.length ≤ 1000000 ∧ zNew (.lst (l.map fun c => T [c])) H Q
theorem vals_signs : ∀ {x : List Nat} {us : List Value}, us.length = x.length → (∀ (i : Nat) (v : Value), us[i]? = some v → ∃ t c, x[i]? = some c ∧ v = .str ⟨#[c]⟩ t) → Vals (x.map fun c => T [c]) us
  | [], [], _, _ => .nil
  | [], _ :: _, h, _ => by simp at h
  | _ :: _, [], h, _ => by simp at h
  | c :: x, u :: us, h, f => by
    obtain ⟨t, c', h1, h2⟩ := f 0 u rfl
    cases h1
    exact .cons ⟨t, h2⟩ (vals_signs (Nat.succ.inj h) fun i v hv => f (i + 1) v hv)
theorem k_listT {X : Cx} (hc : X.calm = true) : CallR X (.type "list") rListT := by
  intro pins s σ H xs us Q I r h
  obtain ⟨l, rfl, hl, q⟩ := h
  obtain ⟨u, rfl, ru⟩ := vals1 r
  obtain ⟨t0, rfl⟩ := ru
  refine call_list_str (I.ok.hd hc) _ _ (fun h' tk acc' c' k hS hi => ?_) (by have e := sizeLine_eq; show (l.toArray).size ≤ sizeLine; rw [e, List.size_toArray]; omega)
  have e1 : acc'.size = l.length := by rw [hi.1]; simp
  refine ⟨.ref _, _, I.laid (t' := tk) (o := .lst (l.map fun c => T [c])) k (Nat.le_refl _) ?_, rfl, q _ (I.hok.fresh (Nat.le_refl _))⟩
  refine ⟨by rw [List.length_map, sizeLine_eq]; omega, acc'.toList, c', ?_, by rw [hS]⟩
  refine vals_signs (by rw [Array.length_toList, e1]) fun i v hv => ?_
  have hv' : acc'[i]? = some v := by rw [← Array.getElem?_toList]; exact hv
  obtain ⟨c, t, h1, h2⟩ := hi.2 i v hv'
  exact ⟨t, c, by simpa using h1, h2⟩
theorem listT_ {H : Hp} {Q : VK} {l : List Nat} (hl : l.length ≤ 1000000) (h : ∀ p H', H p = none → Ex H H' → H' p = some (.lst (l.map fun c => T [c])) → Q (.ref p) H') : rListT [T l] H Q := ⟨l, rfl, hl, new_ h⟩
end Z
namespace Z
open PySem PySem.Spec PyProof.Rows L2
/-- two lists of two texts, told alike -/
theorem lay_txts {ts : List (List Nat)} (hs : ∀ t ∈ ts, ∀ c ∈ t, c < 1000) : SeqAt.shaped (.list (ts.map fun t => Dt t)) = true := by
  unfold SeqAt.shaped
  have h1 : ∀ ts : List (List Nat), (∀ t ∈ ts, ∀ c ∈ t, c < 1000) → PyData.canLayAll0 (ts.map fun t => Dt t) = true := fun ts => by
    induction ts with
    | nil => intro _; rfl
    | cons t ts ih =>
      intro h
      have e : PyData.strOk ⟨t.toArray⟩ = true := by
        unfold PyData.strOk
        rw [Array.all_eq_true_iff_forall_mem]
        intro c hc
        have := h t List.mem_cons_self c (by simpa using hc)
        exact decide_eq_true (by omega)
      simp [PyData.canLayAll0, PyData.canLay0, e, ih fun t ht => h t (List.mem_cons_of_mem _ ht)]
  have h2 : PyData.depth (.list (ts.map fun t => Dt t)) ≤ 1 := by
    simp only [PyData.depth]
    exact Nat.succ_le_succ (depthAll_of fun d hd => by
      obtain ⟨t, _, rfl⟩ := List.mem_map.mp hd
      exact Nat.le_refl _)
  rw [Bool.and_eq_true, decide_eq_true_eq]
  exact ⟨by simp only [PyData.canLay0]; exact h1 ts hs, by omega⟩
theorem dp_txts {K : PySem.W.Frag} {H : Hp} (ts : List (List Nat)) : DpAll K H (ts.map T) (ts.map fun t => Dt t) := by
  induction ts with
  | nil => exact .nil
  | cons t ts ih => exact .cons (.str _) ih
theorem eqTs_ {K : PySem.W.Frag} {H : Hp} {Q : VK} {p q : Addr} {t : List Nat} (hs : ∀ c ∈ t, c < 1000) (h1 : H p = some (.lst [T t, T t])) (h2 : H q = some (.lst [T t, T t])) (h : Q (.bl true) H) : rEqZ K (.ref p) (.ref q) H Q := by
  have l := lay_txts (ts := [t, t]) fun x hx => by
    rcases List.mem_cons.mp hx with z | z
    · rw [z]; exact hs
    · rw [List.mem_singleton.mp z]; exact hs
  exact eqD_ (d := .list [Dt t, Dt t]) (e := .list [Dt t, Dt t]) (.lst (SqL.of h1) (dp_txts [t, t])) (.lst (SqL.of h2) (dp_txts [t, t])) l l
    (by rw [SeqAt.eqv_refl _ (by unfold SeqAt.shaped at l; exact (Bool.and_eq_true_iff.mp l).1)]; exact h)
end Z
/-! Codes by runs, sign by sign: which beginnings go on -/
namespace My
open PySem PySem.Spec PyProof.Rows L2 Z
/-- behind so many signs: A bits told, z noughts of the next number; or c figures still to come, v told of it -/
inductive Cs
  | num (A z : Nat)
  | fig (A c v : Nat)
def Cs.step : Cs → Nat → Cs
  | .num A z, b => if b = 48 then .num A (z + 1) else if z = 0 then .num (A + 1) 0 else .fig A z 1
  | .fig A c v, b => if c ≤ 1 then .num (A + (2 * v + (b - 48))) 0 else .fig A (c - 1) (2 * v + (b - 48))
/-- the least count of bits that such a code comes to -/
def Cs.least : Cs → Nat
  | .num A z => if z = 0 then A else A + 2 ^ z
  | .fig A c v => A + v * 2 ^ c
theorem step_num (A z b : Nat) : (Cs.num A z).step b = if b = 48 then .num A (z + 1) else if z = 0 then .num (A + 1) 0 else .fig A z 1 := rfl
theorem step_fig (A c v b : Nat) : (Cs.fig A c v).step b = if c ≤ 1 then .num (A + (2 * v + (b - 48))) 0 else .fig A (c - 1) (2 * v + (b - 48)) := rfl
theorem least_step (s : Cs) (b : Nat) : s.least ≤ (s.step b).least := by
  cases s with
  | num A z =>
    rw [step_num]
    by_cases q : b = 48
    · rw [if_pos q]
      show (if z = 0 then A else A + 2 ^ z) ≤ (if z + 1 = 0 then A else A + 2 ^ (z + 1))
      by_cases h : z = 0
      · rw [if_pos h, if_neg (Nat.succ_ne_zero z)]; exact Nat.le_add_right _ _
      · rw [if_neg h, if_neg (Nat.succ_ne_zero z), Nat.pow_succ]; omega
    · rw [if_neg q]
      by_cases h : z = 0
      · rw [if_pos h]; subst h
        show A ≤ A + 1
        omega
      · rw [if_neg h]
        show (if z = 0 then A else A + 2 ^ z) ≤ A + 1 * 2 ^ z
        rw [if_neg h]; omega
  | fig A c v =>
    rw [step_fig]
    by_cases q : c ≤ 1
    · rw [if_pos q]
      show A + v * 2 ^ c ≤ A + (2 * v + (b - 48))
      have : 2 ^ c ≤ 2 := by
        have := Nat.pow_le_pow_right (n := 2) (by omega) q
        omega
      have := Nat.mul_le_mul_left v this
      omega
    · rw [if_neg q]
      show A + v * 2 ^ c ≤ A + (2 * v + (b - 48)) * 2 ^ (c - 1)
      obtain ⟨d, rfl⟩ : ∃ d, c = d + 1 := ⟨c - 1, by omega⟩
      rw [Nat.add_sub_cancel, Nat.pow_succ, Nat.add_mul]
      have : v * (2 ^ d * 2) = 2 * v * 2 ^ d := by rw [Nat.mul_comm (2 ^ d) 2, ← Nat.mul_assoc, Nat.mul_comm v 2]
      omega
def crun (l : List Nat) : Cs := l.foldl Cs.step (.num 0 0)
theorem crun_snoc (l : List Nat) (b : Nat) : crun (l ++ [b]) = (crun l).step b := by
  unfold crun
  rw [List.foldl_append]; rfl
theorem least_fold (s : Cs) : ∀ l : List Nat, s.least ≤ (l.foldl Cs.step s).least := by
  intro l
  induction l generalizing s with
  | nil => exact Nat.le_refl _
  | cons b l ih => exact Nat.le_trans (least_step s b) (ih (s.step b))
theorem least_take (l : List Nat) (i : Nat) : (crun (l.take i)).least ≤ (crun l).least := by
  conv => rhs; rw [← List.take_append_drop i l]
  unfold crun
  rw [List.foldl_append]
  exact least_fold _ _
theorem least_mono (l : List Nat) {i j : Nat} (h : i ≤ j) : (crun (l.take i)).least ≤ (crun (l.take j)).least := by
  have := least_take (l.take j) i
  rwa [List.take_take, Nat.min_eq_left h] at this
theorem crun_take {l : List Nat} {i b : Nat} (h : l[i]? = some b) : crun (l.take (i + 1)) = (crun (l.take i)).step b := by
  rw [List.take_succ, h]
  exact crun_snoc _ _
/-- 2: a code's numbers; 1: such go on; 0: none do -/
def goesR (l : List Nat) : Nat := if 64 < (crun l).least then 0 else match crun l with
  | .num _ 0 => if l = [] then 1 else 2
  | _ => 1
def goes : List Nat → Nat
  | [] => 1
  | c :: l => if l.all (fun b => decide (b = 48 ∨ b = 49)) then
      (if c = 112 then (if l.length < 65 then (if l = [] then 1 else 2) else 0)
       else if c = 114 then (match l with | [] => 1 | _ :: r => goesR r) else 0)
    else 0
/-- at this place no code goes on so; or the end is wanting -/
def CodeErr (t : List Nat) (p : Nat) : Prop := p ≤ t.length ∧ (∀ q, q < p → goes (t.take (q + 1)) ≠ 0) ∧ ((p < t.length ∧ goes (t.take (p + 1)) = 0) ∨ (p = t.length ∧ goes t ≠ 2))
def CodeOk (t : List Nat) : Prop := (∀ q, q < t.length → goes (t.take (q + 1)) ≠ 0) ∧ goes t = 2
theorem CodeErr.uniq {t : List Nat} {p q : Nat} (a : CodeErr t p) (b : CodeErr t q) : p = q := by
  obtain ⟨a1, a2, a3⟩ := a
  obtain ⟨b1, b2, b3⟩ := b
  rcases Nat.lt_trichotomy p q with z | z | z
  · rcases a3 with ⟨_, h⟩ | ⟨h, _⟩
    · exact absurd h (b2 p z)
    · omega
  · exact z
  · rcases b3 with ⟨_, h⟩ | ⟨h, _⟩
    · exact absurd h (a2 q z)
    · omega
theorem CodeErr.not {t : List Nat} {p : Nat} (a : CodeErr t p) (b : CodeOk t) : False := by
  obtain ⟨a1, a2, a3⟩ := a
  rcases a3 with ⟨h, h2⟩ | ⟨_, h⟩
  · exact b.1 p h h2
  · exact h b.2
theorem all_bits {l : List Nat} : l.all (fun b => decide (b = 48 ∨ b = 49)) = true ↔ Bits l := by
  rw [List.all_eq_true]
  exact ⟨fun h b hb => (show b = 48 ∨ b = 49 from of_decide_eq_true (h b hb)), fun h b hb => decide_eq_true (p := b = 48 ∨ b = 49) (h b hb)⟩
theorem goes_cons (c : Nat) (l : List Nat) : goes (c :: l) = if l.all (fun b => decide (b = 48 ∨ b = 49)) then
      (if c = 112 then (if l.length < 65 then (if l = [] then 1 else 2) else 0)
       else if c = 114 then (match l with | [] => 1 | _ :: r => goesR r) else 0)
    else 0 := rfl
theorem goes_p {l : List Nat} (hb : Bits l) : goes (112 :: l) = if l.length < 65 then (if l = [] then 1 else 2) else 0 := by
  rw [goes_cons, if_pos (all_bits.mpr hb), if_pos rfl]
theorem goes_r {b : Nat} {l : List Nat} (hb : Bits (b :: l)) : goes (114 :: b :: l) = goesR l := by
  rw [goes_cons]
  rw [if_pos (all_bits.mpr hb), if_neg (by decide), if_pos rfl]
theorem goes_r1 : goes [114] = 1 := rfl
theorem goes_bad {c : Nat} {l : List Nat} (h : ¬ Bits l) : goes (c :: l) = 0 := by
  rw [goes_cons]
  rw [if_neg fun z => h (all_bits.mp z)]
theorem goes_other {c : Nat} {l : List Nat} (h1 : c ≠ 112) (h2 : c ≠ 114) : goes (c :: l) = 0 := by
  rw [goes_cons]
  rw [if_neg h1, if_neg h2]
  split <;> rfl
theorem bits_cons {b : Nat} {l : List Nat} (hb : b = 48 ∨ b = 49) (hl : Bits l) : Bits (b :: l) := fun c hc => by
  rcases List.mem_cons.mp hc with z | z
  · rw [z]; exact hb
  · exact hl c z
theorem bits_snoc {b k : Nat} {l : List Nat} (hl : Bits (l.take k)) (h : l[k]? = some b) (hb : b = 48 ∨ b = 49) : Bits (l.take (k + 1)) := fun c hc => by
  rw [List.take_succ, h] at hc
  rcases List.mem_append.mp hc with z | z
  · exact hl c z
  · have w : c = b := by simpa using z
    rw [w]; exact hb
/-- alive as far as a place -/
theorem alive_r {b : Nat} {r : List Nat} {k : Nat} (hb : b = 48 ∨ b = 49) (hr : Bits (r.take k)) (h : (crun (r.take k)).least ≤ 64) : ∀ q, q < k + 2 → goes ((114 :: b :: r).take (q + 1)) ≠ 0 := by
  intro q hq
  rcases q with _ | q
  · exact Nat.one_ne_zero
  · have e : (114 :: b :: r).take (q + 1 + 1) = 114 :: b :: r.take q := rfl
    have sub : r.take q = (r.take k).take q := by rw [List.take_take, Nat.min_eq_left (by omega)]
    have hs : Bits (r.take q) := by rw [sub]; exact hr.take q
    rw [e, goes_r (bits_cons hb hs)]
    unfold goesR
    have := least_mono r (show q ≤ k by omega)
    rw [if_neg (by omega)]
    split
    · split <;> decide
    · decide
/-- an error where a sign is none, or too much -/
theorem err_sign {b : Nat} {r : List Nat} {k c : Nat} (hb : b = 48 ∨ b = 49) (hr : Bits (r.take k)) (h : (crun (r.take k)).least ≤ 64) (hc : r[k]? = some c) (bad : ¬ (c = 48 ∨ c = 49) ∨ 64 < ((crun (r.take k)).step c).least) : CodeErr (114 :: b :: r) (k + 2) := by
  have hk := (List.getElem?_eq_some_iff.mp hc).1
  refine ⟨by simp only [List.length_cons]; omega, alive_r hb hr h, .inl ⟨by simp only [List.length_cons]; omega, ?_⟩⟩
  have e : (114 :: b :: r).take (k + 2 + 1) = 114 :: b :: r.take (k + 1) := rfl
  rw [e]
  by_cases q : c = 48 ∨ c = 49
  · rw [goes_r (bits_cons hb (bits_snoc hr hc q))]
    unfold goesR
    rw [crun_take hc, if_pos (bad.resolve_left fun z => z q)]
  · refine goes_bad fun z => q (z c (List.mem_cons_of_mem _ ?_))
    rw [List.take_succ, hc]
    simp
/-- an error where the end is wanting -/
theorem err_end {b : Nat} {r : List Nat} (hb : b = 48 ∨ b = 49) (hr : Bits r) (h : (crun r).least ≤ 64) (n2 : goesR r ≠ 2) : CodeErr (114 :: b :: r) (r.length + 2) := by
  have al := alive_r (k := r.length) hb (by rw [List.take_length]; exact hr) (by rw [List.take_length]; exact h)
  refine ⟨by simp, al, .inr ⟨by simp, ?_⟩⟩
  rw [goes_r (bits_cons hb hr)]
  exact n2
theorem ok_runs {b : Nat} {r : List Nat} {A : Nat} (hb : b = 48 ∨ b = 49) (hr : Bits r) (h : crun r = .num A 0) (hA : A ≤ 64) (ne : r ≠ []) : CodeOk (114 :: b :: r) := by
  have hl : (crun r).least ≤ 64 := by rw [h]; exact hA
  have al := alive_r (k := r.length) hb (by rw [List.take_length]; exact hr) (by rw [List.take_length]; exact hl)
  refine ⟨fun q hq => al q (by simpa using hq), ?_⟩
  rw [goes_r (bits_cons hb hr)]
  unfold goesR
  rw [if_neg (by omega), h]
  exact if_neg ne
/-! ### the plain code -/
theorem alive_p {l : List Nat} {k : Nat} (hl : Bits (l.take k)) (h : k ≤ 64) : ∀ q, q < k + 1 → goes ((112 :: l).take (q + 1)) ≠ 0 := by
  intro q hq
  have e : (112 :: l).take (q + 1) = 112 :: l.take q := rfl
  have sub : l.take q = (l.take k).take q := by rw [List.take_take, Nat.min_eq_left (by omega)]
  have hs : Bits (l.take q) := by rw [sub]; exact hl.take q
  rw [e, goes_p hs, if_pos (by rw [List.length_take]; omega)]
  split <;> decide
theorem err_p {l : List Nat} {k c : Nat} (hl : Bits (l.take k)) (h : k ≤ 64) (hc : l[k]? = some c) (bad : ¬ (c = 48 ∨ c = 49) ∨ 64 ≤ k) : CodeErr (112 :: l) (k + 1) := by
  have hk := (List.getElem?_eq_some_iff.mp hc).1
  refine ⟨by rw [List.length_cons]; omega, alive_p hl h, .inl ⟨by rw [List.length_cons]; omega, ?_⟩⟩
  have e : (112 :: l).take (k + 1 + 1) = 112 :: l.take (k + 1) := rfl
  rw [e]
  by_cases q : c = 48 ∨ c = 49
  · have := bad.resolve_left fun z => z q
    rw [goes_p (bits_snoc hl hc q), if_neg (by rw [List.length_take]; omega)]
  · refine goes_bad fun z => q (z c ?_)
    rw [List.take_succ, hc]
    simp
theorem err_p0 : CodeErr [112] 1 := ⟨Nat.le_refl _, fun q hq => by
  obtain rfl : q = 0 := by omega
  decide, .inr ⟨rfl, by decide⟩⟩
theorem ok_p {l : List Nat} (hl : Bits l) (h : l.length ≤ 64) (ne : l ≠ []) : CodeOk (112 :: l) := by
  have al := alive_p (k := l.length) (by rw [List.take_length]; exact hl) h
  refine ⟨fun q hq => al q (by simpa using hq), ?_⟩
  rw [goes_p hl, if_pos (by omega), if_neg ne]
/-! ### what is neither -/
theorem err_other {c : Nat} {l : List Nat} (h1 : c ≠ 112) (h2 : c ≠ 114) : CodeErr (c :: l) 0 :=
  ⟨Nat.zero_le _, fun q hq => absurd hq (by omega), .inl ⟨by rw [List.length_cons]; omega, goes_other h1 h2⟩⟩
theorem err_nil : CodeErr [] 0 := ⟨Nat.le_refl _, fun q hq => absurd hq (by omega), .inr ⟨rfl, by decide⟩⟩
theorem err_r0 : CodeErr [114] 1 := ⟨Nat.le_refl _, fun q hq => by
  obtain rfl : q = 0 := by omega
  decide, .inr ⟨rfl, by decide⟩⟩
theorem err_r1 {b : Nat} {l : List Nat} (h : ¬ (b = 48 ∨ b = 49)) : CodeErr (114 :: b :: l) 1 :=
  ⟨by simp only [List.length_cons]; omega, fun q hq => by
    obtain rfl : q = 0 := by omega
    exact (by decide : goes [114] ≠ 0), .inl ⟨by simp only [List.length_cons]; omega, goes_bad fun z => h (z b (by simp))⟩⟩
end My
/-! One number of a code -/
namespace My
open PySem PySem.Spec PyProof.Rows L2 Z
theorem cut_opt (t : List Nat) (i : Nat) : cut t (some (i : Int)) (some ((i : Int) + 1)) = (t[i]?).toList := by
  rw [cut_mid _ _ _ (by omega) (by omega), Int.toNat_natCast, show ((i : Int) + 1 - (i : Int)).toNat = 1 by omega]
  rcases h : t[i]? with _ | c
  · rw [List.drop_eq_nil_of_le (List.getElem?_eq_none_iff.mp h)]; rfl
  · obtain ⟨h1, rfl⟩ := List.getElem?_eq_some_iff.mp h
    rw [List.drop_eq_getElem_cons h1]; rfl
/-- the value of figures -/
def bv (l : List Nat) : Nat := l.foldl (fun a c => 2 * a + (c - 48)) 0
theorem bv_snoc (l : List Nat) (c : Nat) : bv (l ++ [c]) = 2 * bv l + (c - 48) := by
  unfold bv
  rw [List.foldl_append]; rfl
theorem bv_take {l : List Nat} {i c : Nat} (h : l[i]? = some c) : bv (l.take (i + 1)) = 2 * bv (l.take i) + (c - 48) := by
  rw [List.take_succ, h]
  exact bv_snoc _ _
/-- behind i figures of a number with j noughts ahead -/
def stA (A j i v : Nat) : Cs := if i = 0 then .num A j else if i = j + 1 then .num (A + v) 0 else .fig A (j + 1 - i) v
theorem stA_step {A j i v b : Nat} (hi : i ≤ j) (h0 : i = 0 → b = 49 ∧ v = 0) : (stA A j i v).step b = stA A j (i + 1) (2 * v + (b - 48)) := by
  unfold stA
  by_cases q : i = 0
  · obtain ⟨rfl, rfl⟩ := h0 q
    subst q
    rw [if_pos rfl, if_neg (by omega), step_num, if_neg (by decide)]
    by_cases z : j = 0
    · subst z
      rw [if_pos rfl, if_pos rfl]
    · rw [if_neg z, if_neg (by omega)]
      rfl
  · rw [if_neg q, if_neg (by omega), if_neg (by omega), step_fig]
    by_cases z : i = j
    · subst z
      rw [if_pos (by omega), if_pos rfl]
    · rw [if_neg (by omega), if_neg (by omega), show j + 1 - i - 1 = j + 1 - (i + 1) by omega]
theorem stA_least {A j i v : Nat} (hi : i ≤ j) : (stA A j (i + 1) v).least = A + v * 2 ^ (j - i) := by
  unfold stA
  rw [if_neg (by omega)]
  by_cases z : i = j
  · subst z
    rw [if_pos rfl, Nat.sub_self, Nat.pow_zero, Nat.mul_one]
    rfl
  · rw [if_neg (by omega), show j + 1 - (i + 1) = j - i by omega]
    rfl
/-- from a place on stands a number: j noughts, then its figures -/
structure NumAt (r : List Nat) (A k j v : Nat) : Prop where
  noughts : ∀ i, i < j → r[k + i]? = some 48
  one : r[k + j]? = some 49
  len : k + 2 * j + 1 ≤ r.length
  bits : Bits (r.take (k + 2 * j + 1))
  run : crun (r.take (k + 2 * j + 1)) = .num (A + v) 0
  few : A + v ≤ 64
  val : v = bv ((r.drop (k + j)).take (j + 1))
theorem least_num {A j : Nat} (h : j = 0 ∨ A + 2 ^ j ≤ 64) (hA : A ≤ 64) : (Cs.num A j).least ≤ 64 := by
  show (if j = 0 then A else A + 2 ^ j) ≤ 64
  rcases h with rfl | h
  · rw [if_pos rfl]; exact hA
  · split
    · exact hA
    · exact h
theorem goesR_num {r : List Nat} {A j : Nat} (h : crun r = .num A j) (h2 : j ≠ 0 ∨ r = []) : goesR r ≠ 2 := by
  unfold goesR
  split
  · decide
  · rw [h]
    rcases h2 with z | z
    · rcases j with _ | j
      · exact absurd rfl z
      · exact (by decide : (1 : Nat) ≠ 2)
    · rcases j with _ | j
      · rw [z]; exact (by decide : (1 : Nat) ≠ 2)
      · exact (by decide : (1 : Nat) ≠ 2)
theorem goesR_fig {r : List Nat} {A c v : Nat} (h : crun r = .fig A c v) : goesR r ≠ 2 := by
  unfold goesR
  split
  · decide
  · rw [h]; exact (by decide : (1 : Nat) ≠ 2)
end My
namespace My
open PySem PySem.Spec PyProof.Rows L2 Z
/-- how many noughts stand ahead -/
def nz (l : List Nat) : Nat := (l.takeWhile fun c => decide (c = 48)).length
def oBit (b : Nat) : Nat := if b = 48 then 49 else 48
/-- the bits that numbers tell, by turns -/
def dec : Nat → Nat → List Nat → List Nat
  | 0, _, _ => []
  | f + 1, b, l => if l = [] then [] else List.replicate (bv ((l.drop (nz l)).take (nz l + 1))) b ++ dec f (oBit b) (l.drop (2 * nz l + 1))
theorem dec_nil (f b : Nat) : dec f b [] = [] := by cases f <;> rfl
theorem nz_of : ∀ {l : List Nat} {j : Nat}, (∀ i, i < j → l[i]? = some 48) → l[j]? ≠ some 48 → nz l = j
  | [], 0, _, _ => rfl
  | [], j + 1, h, _ => by have := h 0 (by omega); simp at this
  | c :: l, 0, _, h => by
    have : c ≠ 48 := fun e => h (by rw [e]; rfl)
    unfold nz
    rw [List.takeWhile_cons, if_neg (by simpa using this)]
    rfl
  | c :: l, j + 1, h, h2 => by
    have h0 := h 0 (by omega)
    have : c = 48 := by simpa using h0
    subst this
    have ih := nz_of (l := l) (j := j) (fun i hi => by have := h (i + 1) (by omega); simpa using this) (by simpa using h2)
    unfold nz at ih ⊢
    rw [List.takeWhile_cons, if_pos (by simp), List.length_cons, ih]
theorem NumAt.nz {r : List Nat} {A k j v : Nat} (h : NumAt r A k j v) : My.nz (r.drop k) = j := by
  refine nz_of (fun i hi => ?_) ?_
  · rw [List.getElem?_drop]; exact h.noughts i hi
  · rw [List.getElem?_drop, h.one]; decide
theorem NumAt.dec {r : List Nat} {A k j v b f : Nat} (h : NumAt r A k j v) : My.dec (f + 1) b (r.drop k) = List.replicate v b ++ My.dec f (oBit b) (r.drop (k + 2 * j + 1)) := by
  have hl := h.len
  have ne : r.drop k ≠ [] := fun e => by
    have := congrArg List.length e
    rw [List.length_drop] at this
    simp at this
    omega
  show (if r.drop k = [] then [] else _) = _
  rw [if_neg ne, h.nz, List.drop_drop, List.drop_drop, h.val]
  congr 2
theorem bv_ge : ∀ (l : List Nat) (a : Nat), a ≤ l.foldl (fun a c => 2 * a + (c - 48)) a
  | [], a => Nat.le_refl a
  | c :: l, a => Nat.le_trans (by omega) (bv_ge l (2 * a + (c - 48)))
theorem NumAt.pos {r : List Nat} {A k j v : Nat} (h : NumAt r A k j v) : 0 < v := by
  rw [h.val]
  have hk := (List.getElem?_eq_some_iff.mp h.one).1
  have e : r.drop (k + j) = 49 :: r.drop (k + j + 1) := by
    obtain ⟨h1, h2⟩ := List.getElem?_eq_some_iff.mp h.one
    rw [List.drop_eq_getElem_cons h1, h2]
  rw [e, List.take_succ_cons]
  exact Nat.lt_of_lt_of_le (by decide) (bv_ge _ (2 * 0 + (49 - 48)))
/-- the block of a code -/
def blkOf : List Nat → List Nat
  | [] => []
  | c :: l => if c = 112 then l else match l with
    | [] => []
    | b :: r => dec r.length b r
end My
/-! int(t, 2) of bits -/
namespace My
open PySem PySem.Spec PyProof.Rows L2 Z PySem.NumText PySem.Calls
theorem hexOf {c : Nat} (h : Bit c) : Hx.IsHex c := by
  rcases h with z | z
  · left; omega
  · left; omega
theorem digit_bit {c : Nat} (h : Bit c) : digit? c = some (c - 48) := by
  rcases h with rfl | rfl <;> rfl
theorem step_bit {ds : Array Nat} {t : Bool} {c : Nat} (h : Bit c) : PySem.NumText.step 2 (ds, t) c = some (ds.push (c - 48), true) := by
  rcases h with rfl | rfl <;> rfl
theorem fold_bit : ∀ (l : List Nat) (ds : Array Nat) (t : Bool), Bits l → l ≠ [] → l.foldlM (PySem.NumText.step 2) (ds, t) = some (l.foldl (fun a c => a.push (c - 48)) ds, true)
  | [], _, _, _, h => absurd rfl h
  | [c], ds, t, h, _ => by
    rw [List.foldlM_cons, step_bit (h c (List.mem_singleton.mpr rfl))]
    rfl
  | c :: d :: l, ds, t, h, _ => by
    rw [List.foldlM_cons, step_bit (h c List.mem_cons_self)]
    exact fold_bit (d :: l) (ds.push (c - 48)) true (fun x hx => h x (List.mem_cons_of_mem _ hx)) (by simp)
theorem digits_bit {l : List Nat} (h : Bits l) (ne : l ≠ []) : digits? 2 l = some (l.foldl (fun a c => a.push (c - 48)) #[]) := by
  cases l with
  | nil => exact absurd rfl ne
  | cons c l =>
    unfold digits?
    rw [fold_bit (c :: l) #[] _ h ne]
    rfl
theorem push_bit : ∀ (l : List Nat) (ds : Array Nat), (l.foldl (fun a c => a.push (c - 48)) ds).foldl (fun a d => a * 2 + d) 0 = l.foldl (fun a c => 2 * a + (c - 48)) (ds.foldl (fun a d => a * 2 + d) 0)
  | [], _ => rfl
  | c :: l, ds => by
    rw [List.foldl_cons, push_bit l, List.foldl_cons]
    congr 1
    simp [Nat.mul_comm]
theorem based_bit {l : List Nat} (h : Bits l) : based 2 l = (2, false, l) := by
  rcases l with _ | ⟨a, _ | ⟨c, l⟩⟩
  · rfl
  · rcases h a (by simp) with rfl | rfl <;> rfl
  · rcases h a (by simp) with rfl | rfl <;> rcases h c (by simp) with rfl | rfl <;> rfl
theorem read_bit {l : List Nat} (h : Bits l) (ne : l ≠ []) : (int_private% "readNumeral") 0 2 l = (int_private% "Numeral.value") ((bv l : Nat) : Int) := by
  have hx : ∀ c ∈ l, Hx.IsHex c := fun c hc => hexOf (h c hc)
  have hy : ∀ c ∈ l.reverse, Hx.IsHex c := fun c hc => hexOf (h c (List.mem_reverse.mp hc))
  rw [readNumeral_eq 0 2 l, Hx.dropB hx, Hx.signH hx]
  show judge 0 false (based 2 l).1 (based 2 l).2.1 (digits? (based 2 l).1 ((((based 2 l).2.2).reverse.dropWhile blank).reverse)) = _
  rw [based_bit h]
  show judge 0 false 2 false (digits? 2 ((l.reverse.dropWhile blank).reverse)) = _
  rw [Hx.dropB hy, List.reverse_reverse, digits_bit h ne]
  show (int_private% "Numeral.value") (((l.foldl (fun a c => a.push (c - 48)) (#[] : Array Nat)).foldl (fun a d => a * 2 + d) 0 : Nat) : Int) = _
  rw [push_bit]
  rfl
/-- what stands behind a box is not looked at by the walk -/
structure Box (p : Prop) : Prop where
  of : p
set_option maxHeartbeats 4000000 in
theorem gives_bit {x : PySem.Str} {u t : Tok} (hl : x.length ≤ 640) (h : Bits x.cps.toList) (ne : x.cps.toList ≠ []) : Gives (Builtin.«int.__new__» ⟨[.type "int", .str x u, .int 2 t], []⟩) (.int ((bv x.cps.toList : Nat) : Int)) := by
  refine Gives.of_wp fun M A E s Q hQ => ?_
  obtain ⟨hp, g, d, tk, os⟩ := s
  have t1 := F.conv_sub_int
  have t2 := F.madeHere_int
  have t3 : typeOf (.str x u) = pure (.type "str") := rfl
  have bx : Box ((numSeenOf x).length ≤ 640 ∧ (int_private% "readNumeral") 0 2 (numSeenOf x) = (int_private% "Numeral.value") ((bv x.cps.toList : Nat) : Int) ∧ ((numSeenOf x).length == (numTextOf x).length) = true) := by
    obtain ⟨e1, e2⟩ := Hx.seen_hex (x := x) fun c hc => hexOf (h c hc)
    rw [e1, e2]
    exact ⟨⟨by rw [Array.length_toList]; exact hl, read_bit h ne, beq_self_eq_true _⟩⟩
  clear hl h ne
  repeat (any_goals (first
    | assumption
    | ((with_reducible show wpAny _ _ ((int_private% "intFromText") _ _ _) _ _ _)
       refine Hx.wp_textB bx.of.1 bx.of.2.1 bx.of.2.2 ?_)
    | wp_step))
  all_goals first | exact ⟨_, rfl, hQ⟩ | skip
/-- int(t, 2) -/
def rIntBit : List V → Hp → VK → Prop := fun xs H Q => ∃ l : List Nat, xs = [T l, .int 2] ∧ Bits l ∧ l ≠ [] ∧ l.length ≤ 640 ∧ Q (.int (bv l : Nat)) H
theorem k_intBit {X : Cx} : CallR X (.type "int") rIntBit := by
  intro pins s σ H xs us Q I r h
  obtain ⟨l, rfl, hb, ne, hl, q⟩ := h
  obtain ⟨u, v, rfl, ⟨t1, rfl⟩, ⟨t2, rfl⟩⟩ := vals2 r
  refine callType_new F.called_int F.newNe_int (Hx.typeCall_int_2 _ _) (Hx.newCall_int_2 _ _) (fun obj => F.initArgs_range_2 obj _ _) F.entry_int_new (gives_bit (x := SX.S l) (by rw [SX.S_len]; exact hl) hb ne).meets (show (Made.int ((bv l : Nat) : Int)).post _ s from ⟨rfl, ?_⟩)
  exact ⟨.int ((bv l : Nat) : Int), H, I.tok _, ⟨_, rfl⟩, q⟩
theorem intBit_ {l : List Nat} {H : Hp} {Q : VK} (hb : Bits l) (ne : l ≠ []) (hl : l.length ≤ 640) (h : Q (.int (bv l : Nat)) H) : rIntBit [T l, .int 2] H Q := ⟨l, rfl, hb, ne, hl, h⟩
/-! ### lstrip of noughts -/
theorem lstrip_nz (l : List Nat) : Txt.lstripChars ⟨l.toArray⟩ ⟨#[48]⟩ = ⟨(l.drop (nz l)).toArray⟩ := by
  have hg : (fun c : Nat => (#[48] : Array Nat).contains c) = fun c => decide (c = 48) := by
    funext c
    simp [Array.contains]
    by_cases h : c = 48
    · rw [h]; rfl
    · rw [decide_eq_false h]; exact beq_false_of_ne h
  have h1 : stripLo (#[48] : Array Nat).contains true ⟨l.toArray⟩ = nz l := by
    show ((l.toArray.toList).takeWhile fun c => (#[48] : Array Nat).contains c).length = _
    rw [hg]
    rfl
  have h2 : ∀ lo, stripHi (#[48] : Array Nat).contains false (⟨l.toArray⟩ : Str) lo = l.length := fun lo => by
    show (⟨l.toArray⟩ : Str).length = _
    exact SX.S_len l
  show (if (stripLo (#[48] : Array Nat).contains true ⟨l.toArray⟩ == 0 && stripHi (#[48] : Array Nat).contains false ⟨l.toArray⟩ (stripLo (#[48] : Array Nat).contains true ⟨l.toArray⟩) == (⟨l.toArray⟩ : Str).length) = true then (⟨l.toArray⟩ : Str) else (⟨l.toArray.extract (stripLo (#[48] : Array Nat).contains true ⟨l.toArray⟩) (stripHi (#[48] : Array Nat).contains false ⟨l.toArray⟩ (stripLo (#[48] : Array Nat).contains true ⟨l.toArray⟩))⟩ : Str)) = _
  rw [h2, h1]
  split
  · rename_i q
    have : nz l = 0 := by
      have := (Bool.and_eq_true_iff.mp q).1
      simpa using this
    rw [this]
    rfl
  · congr 1
    simp only [List.extract_toArray, List.extract_eq_take_drop]
    rw [List.take_of_length_le (by rw [List.length_drop]; omega)]
def rLstrip0 : V → List V → Hp → VK → Prop := fun x xs H Q => ∃ l : List Nat, x = T l ∧ xs = [T [48]] ∧ l.length ≤ 1000000 ∧ Q (T (l.drop (nz l))) H
theorem mt_lstrip0 {X : Cx} : MtR X "str.lstrip" rLstrip0 := by
  intro pins s σ H x xs v us Q I rx rs h
  obtain ⟨l, rfl, rfl, hl, q⟩ := h
  refine mt_lstripChars pins s σ H _ _ v us Q I rx rs ⟨⟨l.toArray⟩, ⟨#[48]⟩, rfl, rfl, Nat.le_trans (Nat.le_of_eq (SX.S_len l)) (Nat.le_trans hl (by decide)), ?_⟩
  rw [lstrip_nz]
  exact q
theorem z_lstrip {X : Cx} {o e : Expr} {to te : TE} {apos pos : Pos} (ho : PE X o to) (he : PE X e te) (hs : starEach [e] X.env = [(false, eval e X.env)] := by rfl) (hbase : attributeBase o "lstrip" X.env (eval o X.env) = eval o X.env := by rfl) (hline : (apos.endLine == pos.line) = true := by rfl) :
    PE X (.Call (.Attribute o "lstrip" apos) [e] [] pos) (tM1 rLstrip0 to te) :=
  pe_m1 PySem.F.slot_str_lstrip PySem.F.type_str_lstrip mt_lstrip0 ho he hs hbase hline
theorem lstrip0_ {l : List Nat} {H : Hp} {Q : VK} (hl : l.length ≤ 1000000) (h : Q (T (l.drop (nz l))) H) : rLstrip0 (T l) [T [48]] H Q := ⟨l, rfl, rfl, hl, h⟩
end My
/-! The law's walk from number to number -/
namespace My
open PySem PySem.Spec PyProof.Rows L2 Z
theorem crun_app (l m : List Nat) : crun (l ++ m) = m.foldl Cs.step (crun l) := by
  unfold crun
  rw [List.foldl_append]
theorem crun_drop (l : List Nat) (k : Nat) : crun l = (l.drop k).foldl Cs.step (crun (l.take k)) := by
  conv => lhs; rw [← List.take_append_drop k l]
  exact crun_app _ _
theorem nz_le (l : List Nat) : nz l ≤ l.length := (List.takeWhile_sublist _).length_le
theorem nz_take : ∀ l : List Nat, l.take (nz l) = List.replicate (nz l) 48
  | [] => rfl
  | c :: l => by
    unfold nz
    rw [List.takeWhile_cons]
    by_cases h : c = 48
    · rw [if_pos (by simpa using h), List.length_cons]
      have := nz_take l
      unfold nz at this
      rw [List.take_succ_cons, this, h]
      rfl
    · rw [if_neg (by simpa using h)]
      rfl
theorem nz_next {l : List Nat} {c : Nat} (h : l[nz l]? = some c) : c ≠ 48 := by
  induction l with
  | nil => cases h
  | cons d l ih =>
    by_cases q : d = 48
    · have e : nz (d :: l) = nz l + 1 := by
        unfold nz
        rw [List.takeWhile_cons, if_pos (by simpa using q)]
        rfl
      rw [e, List.getElem?_cons_succ] at h
      exact ih h
    · have e : nz (d :: l) = 0 := by
        unfold nz
        rw [List.takeWhile_cons, if_neg (by simpa using q)]
        rfl
      rw [e] at h
      have : d = c := by simpa using h
      rw [← this]; exact q
theorem step_noughts (A : Nat) : ∀ n z, (List.replicate n 48).foldl Cs.step (.num A z) = .num A (z + n)
  | 0, z => rfl
  | n + 1, z => by
    rw [List.replicate_succ, List.foldl_cons, step_num, if_pos rfl, step_noughts A n (z + 1)]
    congr 1
    omega
/-- behind so many figures -/
theorem step_figs {A j : Nat} (fs : List Nat) (hb : Bits fs) (h49 : ∀ c, fs[0]? = some c → c = 49) : ∀ i, i ≤ fs.length → i ≤ j + 1 → (fs.take i).foldl Cs.step (.num A j) = stA A j i (bv (fs.take i)) := by
  intro i
  induction i with
  | zero => intro _ _; unfold stA; rw [if_pos rfl]; rfl
  | succ i ih =>
    intro h1 h2
    have hc : fs[i]? = some fs[i] := List.getElem?_eq_getElem (by omega)
    have e : fs.take (i + 1) = fs.take i ++ [fs[i]] := by rw [List.take_succ, hc]; rfl
    rw [bv_take hc, e, List.foldl_append, ih (by omega) (by omega)]
    exact stA_step (by omega) fun z => by
      subst z
      exact ⟨h49 _ hc, rfl⟩
theorem bv_zeros (l : List Nat) : ∀ n, bv (l ++ List.replicate n 48) = bv l * 2 ^ n
  | 0 => by rw [List.replicate_zero, List.append_nil, Nat.pow_zero, Nat.mul_one]
  | n + 1 => by
    rw [List.replicate_succ', ← List.append_assoc, bv_snoc, bv_zeros l n, Nat.pow_succ]
    rw [show (48 - 48 : Nat) = 0 from rfl, Nat.add_zero, Nat.mul_comm 2, Nat.mul_assoc]
/-- what the law reckons of the number that begins at k: noughts, figures, the least value -/
structure Reck (r : List Nat) (A k : Nat) (j : Nat) (fs : List Nat) (v : Nat) : Prop where
  noughts : j = nz (r.drop k)
  figs : fs = (r.drop (k + j)).take (j + 1)
  val : v = if fs = [] then 2 ^ j else bv fs * 2 ^ (j + 1 - fs.length)
theorem Reck.state {r fs : List Nat} {A k j v : Nat} (h : Reck r A k j fs v) (hb : Bits r) (hk : k < r.length) (hc : crun (r.take k) = .num A 0) :
    (crun (r.take (k + j + fs.length))).least = A + v ∧ (fs.length < j + 1 → k + j + fs.length = r.length ∧ goesR r ≠ 2) ∧ (fs.length = j + 1 → crun (r.take (k + 2 * j + 1)) = .num (A + v) 0 ∧ k + 2 * j + 1 ≤ r.length) := by
  have hjl : j ≤ (r.drop k).length := by rw [h.noughts]; exact nz_le _
  rw [List.length_drop] at hjl
  have hfl : fs.length = min (j + 1) (r.length - (k + j)) := by rw [h.figs, List.length_take, List.length_drop]
  have htk : (r.drop k).take j = List.replicate j 48 := by rw [h.noughts]; exact nz_take _
  have e1 : r.take (k + j) = r.take k ++ List.replicate j 48 := by rw [← htk, ← List.take_add]
  have c1 : crun (r.take (k + j)) = .num A j := by rw [e1, crun_app, hc, step_noughts]; congr 1; omega
  have hfb : Bits fs := by
    rw [h.figs]
    exact fun c hc => hb c (List.mem_of_mem_drop (List.mem_of_mem_take hc))
  have h49 : ∀ c, fs[0]? = some c → c = 49 := fun c hc0 => by
    have hx : r[k + j]? = some c := by
      rw [h.figs, List.getElem?_take, if_pos (by omega), List.getElem?_drop] at hc0
      exact hc0
    have hn : (r.drop k)[nz (r.drop k)]? = some c := by rw [← h.noughts, List.getElem?_drop]; exact hx
    rcases hb c (List.mem_of_getElem? hx) with z | z
    · exact absurd z (nz_next hn)
    · exact z
  have e2 : r.take (k + j + fs.length) = r.take (k + j) ++ fs := by
    rw [List.take_add]
    congr 1
    rw [h.figs, List.length_take, List.length_drop]
    rcases Nat.le_total (j + 1) (r.length - (k + j)) with z | z
    · rw [Nat.min_eq_left z]
    · rw [Nat.min_eq_right z, List.take_of_length_le (by rw [List.length_drop]; omega), List.take_of_length_le (by rw [List.length_drop]; omega)]
  have c2 : crun (r.take (k + j + fs.length)) = stA A j fs.length (bv fs) := by
    rw [e2, crun_app, c1]
    have := step_figs (A := A) (j := j) fs hfb h49 fs.length (Nat.le_refl _) (by omega)
    rwa [List.take_length] at this
  rcases hz : fs with _ | ⟨c, fs'⟩
  · rw [hz] at c2 hfl
    have hv : v = 2 ^ j := by rw [h.val, if_pos hz]
    have hj0 : j ≠ 0 := fun z => by
      rw [z] at hfl
      have : ([] : List Nat).length = 0 := rfl
      omega
    have hlen : k + j = r.length := by have : ([] : List Nat).length = 0 := rfl; omega
    refine ⟨?_, fun _ => ⟨by rw [List.length_nil]; omega, ?_⟩, fun z => absurd z (by rw [List.length_nil]; omega)⟩
    · rw [c2]
      unfold stA
      rw [if_pos (by rfl), hv]
      show (if j = 0 then A else A + 2 ^ j) = _
      rw [if_neg hj0]
    · rw [hlen, List.take_length] at c1
      exact goesR_num c1 (.inl hj0)
  · rw [← hz]
    have hv : v = bv fs * 2 ^ (j + 1 - fs.length) := by rw [h.val, if_neg (by rw [hz]; simp)]
    have hp : 0 < fs.length := by rw [hz]; simp
    obtain ⟨i, hi⟩ : ∃ i, fs.length = i + 1 := ⟨fs.length - 1, by omega⟩
    refine ⟨?_, fun z => ⟨by omega, ?_⟩, fun z => ?_⟩
    · rw [c2, hi, stA_least (by omega), hv, hi, show j + 1 - (i + 1) = j - i by omega]
    · have hlen : k + j + fs.length = r.length := by omega
      rw [hlen, List.take_length] at c2
      unfold stA at c2
      rw [if_neg (by omega), if_neg (by omega)] at c2
      exact goesR_fig c2
    · have e : k + 2 * j + 1 = k + j + fs.length := by omega
      rw [e, c2]
      unfold stA
      rw [if_neg (by omega), if_pos z, hv, z, Nat.sub_self, Nat.pow_zero, Nat.mul_one]
      exact ⟨rfl, by omega⟩
theorem in_pr (c : Nat) : inV (T [c]) [T [112], T [114]] = decide (c = 112 ∨ c = 114) := by
  have e : ∀ d : Nat, eqV (T [d]) (T [c]) = decide (d = c) := fun d => by
    show ((⟨([d] : List Nat).toArray⟩ : Str) == ⟨([c] : List Nat).toArray⟩) = _
    by_cases h : d = c
    · subst h; simp
    · rw [decide_eq_false h, beq_eq_false_iff_ne]
      intro z
      exact h (by simpa using z)
  unfold inV
  simp only [List.any_cons, List.any_nil, e, Bool.or_false]
  by_cases h1 : c = 112
  · subst h1; rfl
  · by_cases h2 : c = 114
    · subst h2; rfl
    · rw [decide_eq_false (fun z => h1 z.symm), decide_eq_false (fun z => h2 z.symm), decide_eq_false (fun z => by rcases z with z | z; exact h1 z; exact h2 z)]
      rfl
theorem all_inT {l : List Nat} (h : Bits l) : ((l.map fun b => decide (b ∈ [48, 49])).all id) = true := by
  rw [List.all_map, List.all_eq_true]
  intro b hb
  have : b = 48 ∨ b = 49 := h b hb
  simpa using this
theorem all_inF {l : List Nat} (h : ¬ Bits l) : ((l.map fun b => decide (b ∈ [48, 49])).all id) = false := by
  rw [Bool.eq_false_iff]
  intro z
  rw [List.all_map, List.all_eq_true] at z
  refine h fun b hb => ?_
  have := z b hb
  show b = 48 ∨ b = 49
  simpa using this
theorem goesR_zero {l : List Nat} (h : 64 < (crun l).least) : goesR l = 0 := by unfold goesR; rw [if_pos h]
theorem goesR_one {l : List Nat} (h : ¬ 64 < (crun l).least) (h2 : goesR l ≠ 2) : goesR l = 1 := by
  unfold goesR at h2 ⊢
  rw [if_neg h] at h2 ⊢
  split
  · rename_i A e
    rw [e] at h2
    split
    · rfl
    · rename_i q
      exact absurd (if_neg q) h2
  · rfl
theorem rep_zeros (n : Nat) : rep [48] n = List.replicate n 48 := rep_one _ _
theorem goesR_two {r : List Nat} (h : goesR r = 2) : r ≠ [] ∧ ∃ A, A ≤ 64 ∧ crun r = .num A 0 := by
  unfold goesR at h
  split at h
  · cases h
  · rename_i q
    split at h
    · rename_i A e
      split at h
      · cases h
      · rename_i ne
        exact ⟨ne, A, Nat.not_lt.mp (by rw [e] at q; exact q), e⟩
    · cases h
theorem bits_dec (l : List Nat) : Bits l ∨ ¬ Bits l := Classical.em _
theorem CodeOk.cases {l : List Nat} (h : CodeOk l) : (∃ x, l = 112 :: x ∧ Bits x ∧ x ≠ [] ∧ x.length ≤ 64) ∨ ∃ b r A, l = 114 :: b :: r ∧ (b = 48 ∨ b = 49) ∧ Bits r ∧ r ≠ [] ∧ A ≤ 64 ∧ crun r = .num A 0 := by
  have h2 := h.2
  rcases l with _ | ⟨c, x⟩
  · exact absurd h2 (by decide)
  · rcases bits_dec x with hb | hb
    · by_cases q1 : c = 112
      · subst q1
        left
        rw [goes_p hb] at h2
        split at h2
        · rename_i q2
          split at h2
          · cases h2
          · rename_i q3
            exact ⟨x, rfl, hb, q3, by omega⟩
        · cases h2
      · by_cases q2 : c = 114
        · subst q2
          right
          rcases x with _ | ⟨b, r⟩
          · exact absurd h2 (by decide)
          · rw [goes_r hb] at h2
            obtain ⟨ne, A, hA, e⟩ := goesR_two h2
            exact ⟨b, r, A, rfl, hb b List.mem_cons_self, fun c hc => hb c (List.mem_cons_of_mem _ hc), ne, hA, e⟩
        · rw [goes_other q1 q2] at h2
          cases h2
    · rw [goes_bad hb] at h2
      cases h2
/-- within a code every number is whole -/
theorem Reck.whole {r fs : List Nat} {A B k j v : Nat} (h : Reck r A k j fs v) (hb : Bits r) (hk : k < r.length) (hc : crun (r.take k) = .num A 0) (he : crun r = .num B 0) (hB : B ≤ 64) :
    fs.length = j + 1 ∧ fs ≠ [] ∧ v = bv fs ∧ A + v ≤ 64 ∧ k + 2 * j + 1 ≤ r.length ∧ crun (r.take (k + 2 * j + 1)) = .num (A + v) 0 := by
  obtain ⟨n1, n2, n3⟩ := h.state hb hk hc
  have hfl : fs.length ≤ j + 1 := by rw [h.figs, List.length_take]; exact Nat.min_le_left _ _
  have h2 : goesR r = 2 := by
    unfold goesR
    rw [he, if_neg (show ¬ 64 < (Cs.num B 0).least from Nat.not_lt.mpr hB)]
    exact if_neg fun e => by rw [e] at hk; cases hk
  have hl : fs.length = j + 1 := by
    rcases Nat.lt_or_ge fs.length (j + 1) with z | z
    · exact absurd h2 (n2 z).2
    · omega
  have ne : fs ≠ [] := fun e => by rw [e] at hl; cases hl
  obtain ⟨m1, m2⟩ := n3 hl
  have hv : v = bv fs := by rw [h.val, if_neg ne, hl, Nat.sub_self, Nat.pow_zero, Nat.mul_one]
  have := least_take r (k + j + fs.length)
  rw [n1, he] at this
  exact ⟨hl, ne, hv, Nat.le_trans this hB, m2, m1⟩
theorem Reck.dec {r fs : List Nat} {A k j v b f : Nat} (h : Reck r A k j fs v) (hk : k < r.length) : My.dec (f + 1) b (r.drop k) = List.replicate (bv fs) b ++ My.dec f (oBit b) (r.drop (k + 2 * j + 1)) := by
  have ne : r.drop k ≠ [] := fun e => by
    have := congrArg List.length e
    rw [List.length_drop] at this
    simp at this
    omega
  show (if r.drop k = [] then [] else _) = _
  rw [if_neg ne, ← h.noughts, List.drop_drop, List.drop_drop, h.figs]
  congr 2
theorem dec_facts {r : List Nat} {B : Nat} (hb : Bits r) (he : crun r = .num B 0) (hB : B ≤ 64) : ∀ n k A b f, r.length - k ≤ n → k ≤ r.length → r.length - k ≤ f → (b = 48 ∨ b = 49) → crun (r.take k) = .num A 0 → A + (dec f b (r.drop k)).length = B ∧ Bits (dec f b (r.drop k)) := by
  intro n
  induction n with
  | zero =>
    intro k A b f h1 h2 _ _ hc
    have hk : k = r.length := by omega
    rw [hk, List.take_length, he] at hc
    injection hc with hA
    rw [hk, List.drop_length, dec_nil]
    exact ⟨by rw [List.length_nil]; omega, fun c hc => (nomatch hc)⟩
  | succ n ih =>
    intro k A b f h1 h2 hf hbb hc
    rcases Nat.eq_or_lt_of_le h2 with hk | hk
    · rw [hk, List.take_length, he] at hc
      injection hc with hA
      rw [hk, List.drop_length, dec_nil]
      exact ⟨by rw [List.length_nil]; omega, fun c hc => (nomatch hc)⟩
    · have rk : Reck r A k (nz (r.drop k)) ((r.drop (k + nz (r.drop k))).take (nz (r.drop k) + 1)) _ := ⟨rfl, rfl, rfl⟩
      obtain ⟨w1, w2, w3, w4, w5, w6⟩ := rk.whole hb hk hc he hB
      obtain ⟨f, rfl⟩ : ∃ f', f = f' + 1 := ⟨f - 1, by omega⟩
      rw [rk.dec hk, ← w3]
      have hob : oBit b = 48 ∨ oBit b = 49 := by rcases hbb with rfl | rfl <;> decide
      obtain ⟨i1, i2⟩ := ih _ _ (oBit b) f (by omega) w5 (by omega) hob w6
      refine ⟨by rw [List.length_append, List.length_replicate]; omega, fun c hc => ?_⟩
      rcases List.mem_append.mp hc with z | z
      · rw [List.eq_of_mem_replicate z]; exact hbb
      · exact i2 c z
theorem CodeOk.blk {l : List Nat} (h : CodeOk l) : Bits (blkOf l) ∧ (blkOf l).length ≤ 64 := by
  rcases h.cases with ⟨x, rfl, hb, _, hx⟩ | ⟨b, r, B, rfl, hb, hbr, _, hB, he⟩
  · exact ⟨hb, hx⟩
  · obtain ⟨h1, h2⟩ := dec_facts hbr he hB r.length 0 0 b r.length (by omega) (Nat.zero_le _) (by omega) hb rfl
    exact ⟨h2, by
      have : (blkOf (114 :: b :: r)).length = (dec r.length b r).length := rfl
      rw [this]
      have e : (dec r.length b (r.drop 0)).length = (dec r.length b r).length := rfl
      omega⟩
theorem code_either (x : List Nat) : CodeOk x ∨ ∃ q, CodeErr x q := by
  by_cases h : ∀ q, q < x.length → goes (x.take (q + 1)) ≠ 0
  · by_cases h2 : goes x = 2
    · exact .inl ⟨h, h2⟩
    · exact .inr ⟨x.length, Nat.le_refl _, h, .inr ⟨rfl, h2⟩⟩
  · have key : ∀ n, n ≤ x.length → (∃ q, q < n ∧ goes (x.take (q + 1)) = 0) → ∃ q, CodeErr x q := by
      intro n
      induction n with
      | zero => rintro _ ⟨q, hq, _⟩; omega
      | succ n ih =>
        intro hn hq
        by_cases z : ∃ q, q < n ∧ goes (x.take (q + 1)) = 0
        · exact ih (by omega) z
        · obtain ⟨q, hq1, hq2⟩ := hq
          have hqn : q = n := by
            rcases Nat.lt_or_ge q n with w | w
            · exact absurd ⟨q, w, hq2⟩ z
            · omega
          subst hqn
          exact ⟨q, by omega, fun p hp e => z ⟨p, hp, e⟩, .inl ⟨by omega, hq2⟩⟩
    refine .inr (key x.length (Nat.le_refl _) ?_)
    apply Classical.byContradiction
    intro z
    exact h fun q hq e => z ⟨q, hq, e⟩
theorem miss_pr {z : List Nat} (h1 : z ≠ [112]) (h2 : z ≠ [114]) : ∀ k ∈ [("p" : Str), ("r" : Str)], k ≠ (⟨z.toArray⟩ : Str) := by
  have e_p : ("p" : Str) = (⟨([112] : List Nat).toArray⟩ : Str) := by decide +kernel
  have e_r : ("r" : Str) = (⟨([114] : List Nat).toArray⟩ : Str) := by decide +kernel
  intro k hk e
  simp only [List.mem_cons, List.not_mem_nil, or_false] at hk
  rcases hk with rfl | rfl
  · rw [e_p] at e
    exact h1 (by simpa using e.symm)
  · rw [e_r] at e
    exact h2 (by simpa using e.symm)
theorem ncode_le {n : Nat} (h : 0 < n) : (ncode n).length ≤ 2 * n := by
  have hb := figs_bound (Nat.lt_succ_self n) h
  have hp := figs_pos h
  have h2 : (figs n).length - 1 < 2 ^ ((figs n).length - 1) := Nat.lt_two_pow_self
  rw [ncode_len2]
  omega
theorem ncode_flat : ∀ {R : List Nat}, (∀ n ∈ R, 0 < n) → ((R.map ncode).flatten).length ≤ 2 * R.sum
  | [], _ => by simp
  | n :: R, h => by
    have := ncode_le (h n List.mem_cons_self)
    have := ncode_flat (R := R) fun m hm => h m (List.mem_cons_of_mem _ hm)
    rw [List.map_cons, List.flatten_cons, List.length_append, List.sum_cons]
    omega
theorem rcode_len3 (l : List Nat) : (rcode l).length ≤ 2 + 2 * l.length := by
  have hs := ncode_flat (R := runs l) (runs_pos l)
  rw [runs_sum] at hs
  show (([114, l.getD 0 48] ++ ((runs l).map ncode).flatten) : List Nat).length ≤ _
  rw [List.length_append]
  show 2 + _ ≤ _
  omega
theorem bits_ncode {n : Nat} : Bits (ncode n) := by
  unfold ncode
  intro c hc
  rcases List.mem_append.mp hc with z | z
  · rw [rep_one] at z
    exact .inl (List.eq_of_mem_replicate z)
  · exact figs_bits (Nat.lt_succ_self n) c z
theorem sm_rcode {l : List Nat} (hb : Bits l) (h0 : 0 < l.length) : ∀ c ∈ rcode l, c < 128 := by
  intro c hc
  have hc2 : c = 114 ∨ c = l.getD 0 48 ∨ c ∈ ((runs l).map ncode).flatten := by
    rcases List.mem_cons.mp hc with z | z
    · exact .inl z
    · rcases List.mem_cons.mp z with w | w
      · exact .inr (.inl w)
      · exact .inr (.inr w)
  rcases hc2 with z | z | z
  · omega
  · have : l.getD 0 48 ∈ l := by
      rw [List.getD_eq_getElem?_getD, List.getElem?_eq_getElem h0]
      exact List.getElem_mem _
    rcases hb _ this with w | w <;> omega
  · obtain ⟨m, hm, hcm⟩ := List.mem_flatten.mp z
    obtain ⟨k, _, rfl⟩ := List.mem_map.mp hm
    rcases bits_ncode c hcm with w | w <;> omega
theorem at_last2 {α : Type} {xs : List α} {y : α} (h : xs.getLast? = some y) : atI xs (-1) = some y := by
  obtain ⟨f, rfl⟩ := List.getLast?_eq_some_iff.mp h
  exact atI_last _ _
end My
namespace My
open PySem PySem.Spec PyProof.Rows L2 Z
theorem bt_IndexError : bootBuiltins "IndexError" = some (.type "IndexError") := by decide +kernel
theorem bt_KeyError : bootBuiltins "KeyError" = some (.type "KeyError") := by decide +kernel
theorem bt_LookupError : bootBuiltins "LookupError" = some (.type "LookupError") := by decide +kernel
theorem bt_OverflowError : bootBuiltins "OverflowError" = some (.type "OverflowError") := by decide +kernel
theorem bt_RuntimeError : bootBuiltins "RuntimeError" = some (.type "RuntimeError") := by decide +kernel
theorem bt_ValueError : bootBuiltins "ValueError" = some (.type "ValueError") := by decide +kernel
theorem bt_abs : bootBuiltins "abs" = some (.builtin "abs") := by decide +kernel
theorem bt_all : bootBuiltins "all" = some (.builtin "all") := by decide +kernel
theorem bt_enumerate : bootBuiltins "enumerate" = some (.type "enumerate") := by decide +kernel
theorem bt_int : bootBuiltins "int" = some (.type "int") := by decide +kernel
theorem bt_isinstance : bootBuiltins "isinstance" = some (.builtin "isinstance") := by decide +kernel
theorem bt_len : bootBuiltins "len" = some (.builtin "len") := by decide +kernel
theorem bt_max : bootBuiltins "max" = some (.builtin "max") := by decide +kernel
theorem bt_min : bootBuiltins "min" = some (.builtin "min") := by decide +kernel
theorem bt_range : bootBuiltins "range" = some (.type "range") := by decide +kernel
theorem bt_repr : bootBuiltins "repr" = some (.builtin "repr") := by decide +kernel
theorem bt_str : bootBuiltins "str" = some (.type "str") := by decide +kernel
end My
namespace My
open PySem PySem.Spec PyProof.Rows L2 Z
/-- what the top leaves under its names -/
structure G (mg : Str → Option Value) : Prop where
  b_IndexError : mg "IndexError" = none
  b_KeyError : mg "KeyError" = none
  b_LookupError : mg "LookupError" = none
  b_OverflowError : mg "OverflowError" = none
  b_RuntimeError : mg "RuntimeError" = none
  b_ValueError : mg "ValueError" = none
  b_abs : mg "abs" = none
  b_all : mg "all" = none
  b_enumerate : mg "enumerate" = none
  b_int : mg "int" = none
  b_isinstance : mg "isinstance" = none
  b_len : mg "len" = none
  b_max : mg "max" = none
  b_min : mg "min" = none
  b_range : mg "range" = none
  b_repr : mg "repr" = none
  b_str : mg "str" = none
  c_MOST_BITS : ∃ t, mg "MOST_BITS" = some (.int 64 t)
  c_BITS : ∃ t, mg "BITS" = some (.str ⟨([48, 49] : List Nat).toArray⟩ t)
abbrev nm_NoCode_init : List Str := ["self", "at"]
theorem sc_NoCode_init : FnScope nm_NoCode_init ["self", "at"] (defScope st_NoCode_init) := ⟨rfl, rfl, rfl, by decide +kernel, rfl, by decide +kernel, by decide +kernel⟩
abbrev nm_NoBits_init : List Str := ["self", "at"]
theorem sc_NoBits_init : FnScope nm_NoBits_init ["self", "at"] (defScope st_NoBits_init) := ⟨rfl, rfl, rfl, by decide +kernel, rfl, by decide +kernel, by decide +kernel⟩
abbrev nm_NoTree_init : List Str := ["self", "at"]
theorem sc_NoTree_init : FnScope nm_NoTree_init ["self", "at"] (defScope st_NoTree_init) := ⟨rfl, rfl, rfl, by decide +kernel, rfl, by decide +kernel, by decide +kernel⟩
abbrev nm_NoPage_init : List Str := ["self", "at"]
theorem sc_NoPage_init : FnScope nm_NoPage_init ["self", "at"] (defScope st_NoPage_init) := ⟨rfl, rfl, rfl, by decide +kernel, rfl, by decide +kernel, by decide +kernel⟩
abbrev nm_NoRow_init : List Str := ["self", "row"]
theorem sc_NoRow_init : FnScope nm_NoRow_init ["self", "row"] (defScope st_NoRow_init) := ⟨rfl, rfl, rfl, by decide +kernel, rfl, by decide +kernel, by decide +kernel⟩
abbrev nm_NoPlace_init : List Str := ["self", "at"]
theorem sc_NoPlace_init : FnScope nm_NoPlace_init ["self", "at"] (defScope st_NoPlace_init) := ⟨rfl, rfl, rfl, by decide +kernel, rfl, by decide +kernel, by decide +kernel⟩
abbrev nm_NoNode_init : List Str := ["self", "node"]
theorem sc_NoNode_init : FnScope nm_NoNode_init ["self", "node"] (defScope st_NoNode_init) := ⟨rfl, rfl, rfl, by decide +kernel, rfl, by decide +kernel, by decide +kernel⟩
abbrev nm_NoLetter_init : List Str := ["self", "letter"]
theorem sc_NoLetter_init : FnScope nm_NoLetter_init ["self", "letter"] (defScope st_NoLetter_init) := ⟨rfl, rfl, rfl, by decide +kernel, rfl, by decide +kernel, by decide +kernel⟩
abbrev nm_Full_init : List Str := ["self", "many"]
theorem sc_Full_init : FnScope nm_Full_init ["self", "many"] (defScope st_Full_init) := ⟨rfl, rfl, rfl, by decide +kernel, rfl, by decide +kernel, by decide +kernel⟩
abbrev nm_Torn_init : List Str := ["self", "at"]
theorem sc_Torn_init : FnScope nm_Torn_init ["self", "at"] (defScope st_Torn_init) := ⟨rfl, rfl, rfl, by decide +kernel, rfl, by decide +kernel, by decide +kernel⟩
abbrev nm_read_plain : List Str := ["text", "at", "sign"]
theorem sc_read_plain : FnScope nm_read_plain ["text"] (defScope st_read_plain) := ⟨rfl, rfl, rfl, by decide +kernel, rfl, by decide +kernel, by decide +kernel⟩
abbrev nm_read_number : List Str := ["text", "at", "room", "least", "number", "sign"]
theorem sc_read_number : FnScope nm_read_number ["text", "at", "room"] (defScope st_read_number) := ⟨rfl, rfl, rfl, by decide +kernel, rfl, by decide +kernel, by decide +kernel⟩
abbrev nm_other_bit : List Str := ["bit"]
theorem sc_other_bit : FnScope nm_other_bit ["bit"] (defScope st_other_bit) := ⟨rfl, rfl, rfl, by decide +kernel, rfl, by decide +kernel, by decide +kernel⟩
abbrev nm_read_runs : List Str := ["text", "bit", "found", "at", "many"]
theorem sc_read_runs : FnScope nm_read_runs ["text"] (defScope st_read_runs) := ⟨rfl, rfl, rfl, by decide +kernel, rfl, by decide +kernel, by decide +kernel⟩
abbrev nm_read_code : List Str := ["text", "reader"]
theorem sc_read_code : FnScope nm_read_code ["text"] (defScope st_read_code) := ⟨rfl, rfl, rfl, by decide +kernel, rfl, by decide +kernel, by decide +kernel⟩
abbrev nm_law_urn : List Str := ["_law_script", "_law_spot", "_law_cell", "_law_great"]
theorem sc_law_urn : FnScope nm_law_urn ["_law_script", "_law_spot"] (defScope st_law_urn) := ⟨rfl, rfl, rfl, by decide +kernel, rfl, by decide +kernel, by decide +kernel⟩
abbrev nm_law_draw : List Str := ["_law_urn_here", "_law_wide", "_law_digit", "_law_primes", "_law_here", "_law_base", "_law_mixed"]
theorem sc_law_draw : FnScope nm_law_draw ["_law_urn_here", "_law_wide"] (defScope st_law_draw) := ⟨rfl, rfl, rfl, by decide +kernel, rfl, by decide +kernel, by decide +kernel⟩
abbrev nm_law_which : List Str := ["_law_e", "_law_some", "_law_names", "_law_right", "_law_name", "_law_ours", "_law_theirs"]
theorem sc_law_which : FnScope nm_law_which ["_law_e"] (defScope st_law_which) := ⟨rfl, rfl, rfl, by decide +kernel, rfl, by decide +kernel, by decide +kernel⟩
abbrev nm_law_told : List Str := ["_law_deed", "_law_e"]
theorem sc_law_told : FnScope nm_law_told ["_law_deed"] (defScope st_law_told) := ⟨rfl, rfl, rfl, by decide +kernel, rfl, by decide +kernel, by decide +kernel⟩
abbrev nm_law_odd : List Str := ["_law_urn_here", "_law_some"]
theorem sc_law_odd : FnScope nm_law_odd ["_law_urn_here"] (defScope st_law_odd) := ⟨rfl, rfl, rfl, by decide +kernel, rfl, by decide +kernel, by decide +kernel⟩
abbrev nm_law_bits : List Str := ["_law_urn_here", "_law_most", "_law_amount", "_law_way", "_law_sign", "_law_found"]
theorem sc_law_bits : FnScope nm_law_bits ["_law_urn_here", "_law_most"] (defScope st_law_bits) := ⟨rfl, rfl, rfl, by decide +kernel, rfl, by decide +kernel, by decide +kernel⟩
abbrev nm_law_runs : List Str := ["_law_row_text", "_law_found", "_law_here", "_law_sign"]
theorem sc_law_runs : FnScope nm_law_runs ["_law_row_text"] (defScope st_law_runs) := ⟨rfl, rfl, rfl, by decide +kernel, rfl, by decide +kernel, by decide +kernel⟩
abbrev nm_law_number_code : List Str := ["_law_number", "_law_found"]
theorem sc_law_number_code : FnScope nm_law_number_code ["_law_number"] (defScope st_law_number_code) := ⟨rfl, rfl, rfl, by decide +kernel, rfl, by decide +kernel, by decide +kernel⟩
abbrev nm_law_codes : List Str := ["_law_row_text", "_law_parts", "_law_number"]
theorem sc_law_codes : FnScope nm_law_codes ["_law_row_text"] (defScope st_law_codes) := ⟨rfl, rfl, rfl, by decide +kernel, rfl, by decide +kernel, by decide +kernel⟩
abbrev nm_law_block : List Str := ["_law_urn_here"]
theorem sc_law_block : FnScope nm_law_block ["_law_urn_here"] (defScope st_law_block) := ⟨rfl, rfl, rfl, by decide +kernel, rfl, by decide +kernel, by decide +kernel⟩
abbrev nm_law_goes_on : List Str := ["_law_row_text", "_law_here", "_law_amount", "_law_noughts", "_law_figures", "_law_ahead", "_law_sign"]
theorem sc_law_goes_on : FnScope nm_law_goes_on ["_law_row_text"] (defScope st_law_goes_on) := ⟨rfl, rfl, rfl, by decide +kernel, rfl, by decide +kernel, by decide +kernel⟩
abbrev nm_law_code_due : List Str := ["_law_thing", "_law_here"]
theorem sc_law_code_due : FnScope nm_law_code_due ["_law_thing"] (defScope st_law_code_due) := ⟨rfl, rfl, rfl, by decide +kernel, rfl, by decide +kernel, by decide +kernel⟩
abbrev nm_law_block_of : List Str := ["_law_row_text", "_law_found", "_law_sign", "_law_here", "_law_noughts", "_law_figures"]
theorem sc_law_block_of : FnScope nm_law_block_of ["_law_row_text"] (defScope st_law_block_of) := ⟨rfl, rfl, rfl, by decide +kernel, rfl, by decide +kernel, by decide +kernel⟩
abbrev nm_law_spoilt_code : List Str := ["_law_urn_here", "_law_written", "_law_spot", "_law_sign", "_law_ahead", "_law_behind", "_law_some"]
theorem sc_law_spoilt_code : FnScope nm_law_spoilt_code ["_law_urn_here", "_law_written"] (defScope st_law_spoilt_code) := ⟨rfl, rfl, rfl, by decide +kernel, rfl, by decide +kernel, by decide +kernel⟩
abbrev nm_law_looked_right : List Str := ["_law_thing", "_law_due", "_law_kept", "_law_told_here", "_law_turn"]
theorem sc_law_looked_right : FnScope nm_law_looked_right ["_law_thing"] (defScope st_law_looked_right) := ⟨rfl, rfl, rfl, by decide +kernel, rfl, by decide +kernel, by decide +kernel⟩
abbrev nm_law : List Str := ["_law_script", "_law_spot", "_law_urn_here", "_law_things", "_law_written", "_law_turn", "_law_few", "_law_least", "_law_number", "_law_parts", "_law_thing", "_law_one"]
theorem sc_law : FnScope nm_law ["_law_script"] (defScope st_law) := ⟨rfl, rfl, rfl, by decide +kernel, rfl, by decide +kernel, by decide +kernel⟩
theorem lit_0 : (Str.ofString "no code") = (⟨([110, 111, 32, 99, 111, 100, 101] : List Nat).toArray⟩ : Str) := by decide +kernel
theorem lit_1 : (Str.ofString "no bits") = (⟨([110, 111, 32, 98, 105, 116, 115] : List Nat).toArray⟩ : Str) := by decide +kernel
theorem lit_2 : (Str.ofString "no tree") = (⟨([110, 111, 32, 116, 114, 101, 101] : List Nat).toArray⟩ : Str) := by decide +kernel
theorem lit_3 : (Str.ofString "no page") = (⟨([110, 111, 32, 112, 97, 103, 101] : List Nat).toArray⟩ : Str) := by decide +kernel
theorem lit_4 : (Str.ofString "no row") = (⟨([110, 111, 32, 114, 111, 119] : List Nat).toArray⟩ : Str) := by decide +kernel
theorem lit_5 : (Str.ofString "no place") = (⟨([110, 111, 32, 112, 108, 97, 99, 101] : List Nat).toArray⟩ : Str) := by decide +kernel
theorem lit_6 : (Str.ofString "no node") = (⟨([110, 111, 32, 110, 111, 100, 101] : List Nat).toArray⟩ : Str) := by decide +kernel
theorem lit_7 : (Str.ofString "no letter") = (⟨([110, 111, 32, 108, 101, 116, 116, 101, 114] : List Nat).toArray⟩ : Str) := by decide +kernel
theorem lit_8 : (Str.ofString "full") = (⟨([102, 117, 108, 108] : List Nat).toArray⟩ : Str) := by decide +kernel
theorem lit_9 : (Str.ofString "torn") = (⟨([116, 111, 114, 110] : List Nat).toArray⟩ : Str) := by decide +kernel
theorem lit_10 : (Str.ofString "") = (⟨([] : List Nat).toArray⟩ : Str) := by decide +kernel
theorem lit_11 : (Str.ofString "1") = (⟨([49] : List Nat).toArray⟩ : Str) := by decide +kernel
theorem lit_12 : (Str.ofString "0") = (⟨([48] : List Nat).toArray⟩ : Str) := by decide +kernel
theorem lit_13 : (Str.ofString "several") = (⟨([115, 101, 118, 101, 114, 97, 108] : List Nat).toArray⟩ : Str) := by decide +kernel
theorem lit_14 : (Str.ofString "Busy") = (⟨([66, 117, 115, 121] : List Nat).toArray⟩ : Str) := by decide +kernel
theorem lit_15 : (Str.ofString "Torn") = (⟨([84, 111, 114, 110] : List Nat).toArray⟩ : Str) := by decide +kernel
theorem lit_16 : (Str.ofString "Full") = (⟨([70, 117, 108, 108] : List Nat).toArray⟩ : Str) := by decide +kernel
theorem lit_17 : (Str.ofString "NoDeed") = (⟨([78, 111, 68, 101, 101, 100] : List Nat).toArray⟩ : Str) := by decide +kernel
theorem lit_18 : (Str.ofString "NoLetter") = (⟨([78, 111, 76, 101, 116, 116, 101, 114] : List Nat).toArray⟩ : Str) := by decide +kernel
theorem lit_19 : (Str.ofString "NoNode") = (⟨([78, 111, 78, 111, 100, 101] : List Nat).toArray⟩ : Str) := by decide +kernel
theorem lit_20 : (Str.ofString "NoPlace") = (⟨([78, 111, 80, 108, 97, 99, 101] : List Nat).toArray⟩ : Str) := by decide +kernel
theorem lit_21 : (Str.ofString "NoRow") = (⟨([78, 111, 82, 111, 119] : List Nat).toArray⟩ : Str) := by decide +kernel
theorem lit_22 : (Str.ofString "NoStretch") = (⟨([78, 111, 83, 116, 114, 101, 116, 99, 104] : List Nat).toArray⟩ : Str) := by decide +kernel
theorem lit_23 : (Str.ofString "NoTurned") = (⟨([78, 111, 84, 117, 114, 110, 101, 100] : List Nat).toArray⟩ : Str) := by decide +kernel
theorem lit_24 : (Str.ofString "NoWord") = (⟨([78, 111, 87, 111, 114, 100] : List Nat).toArray⟩ : Str) := by decide +kernel
theorem lit_25 : (Str.ofString "NoPage") = (⟨([78, 111, 80, 97, 103, 101] : List Nat).toArray⟩ : Str) := by decide +kernel
theorem lit_26 : (Str.ofString "NoTree") = (⟨([78, 111, 84, 114, 101, 101] : List Nat).toArray⟩ : Str) := by decide +kernel
theorem lit_27 : (Str.ofString "NoBits") = (⟨([78, 111, 66, 105, 116, 115] : List Nat).toArray⟩ : Str) := by decide +kernel
theorem lit_28 : (Str.ofString "NoCode") = (⟨([78, 111, 67, 111, 100, 101] : List Nat).toArray⟩ : Str) := by decide +kernel
theorem lit_29 : (Str.ofString "told") = (⟨([116, 111, 108, 100] : List Nat).toArray⟩ : Str) := by decide +kernel
theorem lit_30 : (Str.ofString "i") = (⟨([105] : List Nat).toArray⟩ : Str) := by decide +kernel
theorem lit_31 : (Str.ofString "r") = (⟨([114] : List Nat).toArray⟩ : Str) := by decide +kernel
theorem lit_32 : (Str.ofString "p") = (⟨([112] : List Nat).toArray⟩ : Str) := by decide +kernel
theorem lit_33 : (Str.ofString "0 1") = (⟨([48, 32, 49] : List Nat).toArray⟩ : Str) := by decide +kernel
theorem lit_34 : (Str.ofString "row") = (⟨([114, 111, 119] : List Nat).toArray⟩ : Str) := by decide +kernel
theorem lit_35 : (Str.ofString "bit") = (⟨([98, 105, 116] : List Nat).toArray⟩ : Str) := by decide +kernel
theorem lit_36 : (Str.ofString "()()") = (⟨([40, 41, 40, 41] : List Nat).toArray⟩ : Str) := by decide +kernel
theorem lit_37 : (Str.ofString ")") = (⟨([41] : List Nat).toArray⟩ : Str) := by decide +kernel
theorem lit_38 : (Str.ofString "(") = (⟨([40] : List Nat).toArray⟩ : Str) := by decide +kernel
theorem lit_39 : (Str.ofString "x") = (⟨([120] : List Nat).toArray⟩ : Str) := by decide +kernel
theorem lit_40 : (Str.ofString "2") = (⟨([50] : List Nat).toArray⟩ : Str) := by decide +kernel
theorem lit_41 : (Str.ofString "01") = (⟨([48, 49] : List Nat).toArray⟩ : Str) := by decide +kernel
theorem lit_42 : (Str.ofString "01pr0 2") = (⟨([48, 49, 112, 114, 48, 32, 50] : List Nat).toArray⟩ : Str) := by decide +kernel
theorem lit_43 : (Str.ofString "r0") = (⟨([114, 48] : List Nat).toArray⟩ : Str) := by decide +kernel
theorem lit_44 : (Str.ofString "r1") = (⟨([114, 49] : List Nat).toArray⟩ : Str) := by decide +kernel
def sp_read_plain (X : Addr) : Sp := fun vs H Q E => ∃ (l : List Nat) (L : List Asn), vs = [T (112 :: l)] ∧ S L H ∧ l.length ≤ 100000 ∧
  (CodeOk (112 :: l) → ∀ H', S L H' → Q (T l) H') ∧
  (∀ q : Nat, CodeErr (112 :: l) q → ∀ d H', S (pts d (.xd [("at", .int (q : Nat))]) :: L) H' → E (.ref X) (some d) H')
theorem cx_read_plain {X : Addr} {l : List Nat} {L : List Asn} {H : Hp} {Q : VK} {E : XK} (s : S L H) (hl : l.length ≤ 100000) (k1 : CodeOk (112 :: l) → ∀ H', S L H' → Q (T l) H')
    (k2 : ∀ q : Nat, CodeErr (112 :: l) q → ∀ d H', S (pts d (.xd [("at", .int (q : Nat))]) :: L) H' → E (.ref X) (some d) H') : sp_read_plain X [T (112 :: l)] H Q E := ⟨l, L, rfl, s, hl, k1, k2⟩
def sp_read_number (X : Addr) : Sp := fun vs H Q E => ∃ (b k A : Nat) (r : List Nat) (i room : Int) (L : List Asn), vs = [T (114 :: b :: r), .int i, .int room] ∧ S L H ∧ i = (k + 2 : Nat) ∧ room = 64 - (A : Int) ∧ (b = 48 ∨ b = 49) ∧ Bits (r.take k) ∧ crun (r.take k) = .num A 0 ∧ A ≤ 64 ∧ (k < r.length ∨ (r = [] ∧ k = 0)) ∧ r.length ≤ 100000 ∧
  (∀ (j v : Nat), NumAt r A k j v → ∀ p H', S (pts p (.tup [.int (v : Nat), .int (k + 2 * j + 1 + 2 : Nat)]) :: L) H' → Q (.ref p) H') ∧
  (∀ q : Nat, CodeErr (114 :: b :: r) q → ∀ d H', S (pts d (.xd [("at", .int (q : Nat))]) :: L) H' → E (.ref X) (some d) H')
theorem cx_read_number {X : Addr} {b k A : Nat} {r : List Nat} {i room : Int} {L : List Asn} {H : Hp} {Q : VK} {E : XK} (s : S L H) (hi : i = (k + 2 : Nat)) (hr : room = 64 - (A : Int)) (hb : b = 48 ∨ b = 49) (hk : Bits (r.take k)) (hc : crun (r.take k) = .num A 0) (hA : A ≤ 64) (hne : k < r.length ∨ (r = [] ∧ k = 0)) (hl : r.length ≤ 100000)
    (k1 : ∀ (j v : Nat), NumAt r A k j v → ∀ p H', S (pts p (.tup [.int (v : Nat), .int (k + 2 * j + 1 + 2 : Nat)]) :: L) H' → Q (.ref p) H')
    (k2 : ∀ q : Nat, CodeErr (114 :: b :: r) q → ∀ d H', S (pts d (.xd [("at", .int (q : Nat))]) :: L) H' → E (.ref X) (some d) H') : sp_read_number X [T (114 :: b :: r), .int i, .int room] H Q E :=
  ⟨b, k, A, r, i, room, L, rfl, s, hi, hr, hb, hk, hc, hA, hne, hl, k1, k2⟩
def sp_other_bit : Sp := fun vs H Q _ => ∃ c : Nat, vs = [T [c]] ∧ Bit c ∧ Q (T [97 - c]) H
theorem call_other_bit {c : Nat} {H : Hp} {Q : VK} {E : XK} (hb : Bit c) (k : Q (T [97 - c]) H) : sp_other_bit [T [c]] H Q E := ⟨c, rfl, hb, k⟩
def sp_read_runs (X : Addr) : Sp := fun vs H Q E => ∃ (l : List Nat) (L : List Asn), vs = [T (114 :: l)] ∧ S L H ∧ l.length ≤ 100000 ∧
  (CodeOk (114 :: l) → ∀ H', S L H' → Q (T (blkOf (114 :: l))) H') ∧
  (∀ q : Nat, CodeErr (114 :: l) q → ∀ d H', S (pts d (.xd [("at", .int (q : Nat))]) :: L) H' → E (.ref X) (some d) H')
theorem cx_read_runs {X : Addr} {l : List Nat} {L : List Asn} {H : Hp} {Q : VK} {E : XK} (s : S L H) (hl : l.length ≤ 100000) (k1 : CodeOk (114 :: l) → ∀ H', S L H' → Q (T (blkOf (114 :: l))) H')
    (k2 : ∀ q : Nat, CodeErr (114 :: l) q → ∀ d H', S (pts d (.xd [("at", .int (q : Nat))]) :: L) H' → E (.ref X) (some d) H') : sp_read_runs X [T (114 :: l)] H Q E := ⟨l, L, rfl, s, hl, k1, k2⟩
def S_read_code (X f1 f2 : Addr) : Addr → Sp → Prop := fun f sp => (f = f1 ∧ sp = sp_read_plain X) ∨ (f = f2 ∧ sp = sp_read_runs X)
def sp_read_code (X : Addr) : Sp := fun vs H Q E => ∃ (v : V) (L : List Asn), vs = [v] ∧ S L H ∧ ((∃ x : List Nat, v = T x ∧ x.length ≤ 100000 ∧
  (CodeOk x → ∀ H', S L H' → Q (T (blkOf x)) H') ∧
  (∀ q : Nat, CodeErr x q → ∀ d H', S (pts d (.xd [("at", .int (q : Nat))]) :: L) H' → E (.ref X) (some d) H')) ∨
  (Odd H v ∧ ∀ d H', S (pts d (.xd [("at", .non)]) :: L) H' → E (.ref X) (some d) H'))
theorem cx_read_code {X : Addr} {L : List Asn} {H : Hp} {Q : VK} {E : XK} {x : List Nat} (s : S L H) (hl : x.length ≤ 100000) (k1 : CodeOk x → ∀ H', S L H' → Q (T (blkOf x)) H')
    (k2 : ∀ q : Nat, CodeErr x q → ∀ d H', S (pts d (.xd [("at", .int (q : Nat))]) :: L) H' → E (.ref X) (some d) H') : sp_read_code X [T x] H Q E := ⟨_, L, rfl, s, .inl ⟨x, rfl, hl, k1, k2⟩⟩
theorem cx_read_codeO {X : Addr} {L : List Asn} {H : Hp} {Q : VK} {E : XK} {v : V} (s : S L H) (ho : Odd H v) (k2 : ∀ d H', S (pts d (.xd [("at", .non)]) :: L) H' → E (.ref X) (some d) H') : sp_read_code X [v] H Q E := ⟨_, L, rfl, s, .inr ⟨ho, k2⟩⟩
def sp_law_urn (K : PySem.W.Frag) : Sp := fun vs H Q _ => ∃ (a : Addr) (ns : List Int) (i : Int), vs = [.ref a, .int i] ∧ SqL K H a (ns.map V.int) ∧ ns.length ≤ 63 ∧ 0 ≤ i ∧ i < 64 ∧ ∀ u H', H u = none → Ex H H' → Urn H' u 0 → Q (.ref u) H'
theorem call_law_urn {K : PySem.W.Frag} {a : Addr} {ns : List Int} {i : Int} {H : Hp} {Q : VK} {E : XK} (h1 : SqL K H a (ns.map V.int)) (h2 : ns.length ≤ 63) (h3 : 0 ≤ i) (h4 : i < 64) (k : ∀ u H', H u = none → Ex H H' → Urn H' u 0 → Q (.ref u) H') : sp_law_urn K [.ref a, .int i] H Q E := ⟨a, ns, i, rfl, h1, h2, h3, h4, k⟩
theorem cs_law_urn {K : PySem.W.Frag} {a : Addr} {ns : List Int} {i : Int} {L : List Asn} {H : Hp} {Q : VK} {E : XK} (s : S L H) (h1 : SqL K H a (ns.map V.int)) (h2 : ns.length ≤ 63) (h3 : 0 ≤ i) (h4 : i < 64) (k : ∀ u H', S (AUrn u 0 :: L) H' → Q (.ref u) H') : sp_law_urn K [.ref a, .int i] H Q E :=
  call_law_urn h1 h2 h3 h4 fun u H' n e hu => k u H' (s.newUrn n e hu)
def sp_law_draw : Sp := fun vs H Q _ => ∃ (u : Addr) (n : Nat) (m : Int), vs = [.ref u, .int m] ∧ Urn H u n ∧ n < 1000000000 ∧ 0 < m ∧ m < 1073741824 ∧ ∀ d H', 0 ≤ d → d < m → Urn H' u (n + 1) → But u H H' → Q (.int d) H'
theorem call_law_draw {u : Addr} {n : Nat} {m : Int} {H : Hp} {Q : VK} {E : XK} (h1 : Urn H u n) (h2 : n < 1000000000) (h3 : 0 < m) (h4 : m < 1073741824) (k : ∀ d H', 0 ≤ d → d < m → Urn H' u (n + 1) → But u H H' → Q (.int d) H') : sp_law_draw [.ref u, .int m] H Q E := ⟨u, n, m, rfl, h1, h2, h3, h4, k⟩
theorem cs_law_draw {u : Addr} {n : Nat} {m : Int} {L M : List Asn} {H : Hp} {Q : VK} {E : XK} (s : S L H) (p : Pick (AUrn u n) L M) (h2 : n < 1000000000) (h3 : 0 < m) (h4 : m < 1073741824) (k : ∀ d H', 0 ≤ d → d < m → S (AUrn u (n + 1) :: M) H' → Q (.int d) H') : sp_law_draw [.ref u, .int m] H Q E := by
  obtain ⟨hu, k0⟩ := (s.pick p).urn
  exact call_law_draw hu h2 h3 h4 fun d H' h0 h1 hu b => k d H' h0 h1 (k0 H' _ hu b)
def sp_law_odd : Sp := fun vs H Q _ => ∃ (u : Addr) (n : Nat) (L : List Asn), vs = [.ref u] ∧ S (AUrn u n :: L) H ∧ n < 900000000 ∧
  ∀ v d H', S (AOdd v d :: AUrn u (n + 1) :: L) H' → Q v H'
theorem cs_law_odd {u : Addr} {n : Nat} {L M : List Asn} {H : Hp} {Q : VK} {E : XK} (s : S L H) (p : Pick (AUrn u n) L M) (h1 : n < 900000000) (k : ∀ v d H', S (AOdd v d :: AUrn u (n + 1) :: M) H' → Q v H') : sp_law_odd [.ref u] H Q E := ⟨u, n, M, rfl, s.pick p, h1, k⟩
def sp_law_bits : Sp := fun vs H Q _ => ∃ (u : Addr) (n : Nat) (m : Int), vs = [.ref u, .int m] ∧ Urn H u n ∧ n < 500000000 ∧ 0 ≤ m ∧ m ≤ 1000 ∧
  ∀ (l : List Nat) (H' : Hp), Bits l → l.length ≤ m → Urn H' u (n + 2100) → But u H H' → Q (T l) H'
theorem call_law_bits {u : Addr} {n : Nat} {m : Int} {H : Hp} {Q : VK} {E : XK} (h1 : Urn H u n) (h2 : n < 500000000) (h3 : 0 ≤ m) (h4 : m ≤ 1000)
    (k : ∀ (l : List Nat) (H' : Hp), Bits l → l.length ≤ m → Urn H' u (n + 2100) → But u H H' → Q (T l) H') : sp_law_bits [.ref u, .int m] H Q E := ⟨u, n, m, rfl, h1, h2, h3, h4, k⟩
theorem cs_law_bits {u : Addr} {n : Nat} {m : Int} {L M : List Asn} {H : Hp} {Q : VK} {E : XK} (s : S L H) (p : Pick (AUrn u n) L M) (h2 : n < 500000000) (h3 : 0 ≤ m) (h4 : m ≤ 1000)
    (k : ∀ (l : List Nat) (H' : Hp), Bits l → l.length ≤ m → S (AUrn u (n + 2100) :: M) H' → Q (T l) H') : sp_law_bits [.ref u, .int m] H Q E := by
  obtain ⟨hu, k0⟩ := (s.pick p).urn
  exact call_law_bits hu h2 h3 h4 fun l H' h0 h1 hu b => k l H' h0 h1 (k0 H' _ hu b)
def sp_law_runs : Sp := fun vs H Q _ => ∃ l : List Nat, vs = [T l] ∧ l.length ≤ 1000 ∧ ∀ p H', H p = none → Ex H H' → H' p = some (.lst ((runs l).map fun n => V.int (n : Nat))) → Q (.ref p) H'
theorem call_law_runs {l : List Nat} {H : Hp} {Q : VK} {E : XK} (h1 : l.length ≤ 1000) (k : ∀ p H', H p = none → Ex H H' → H' p = some (.lst ((runs l).map fun n => V.int (n : Nat))) → Q (.ref p) H') : sp_law_runs [T l] H Q E := ⟨l, rfl, h1, k⟩
def sp_law_number_code : Sp := fun vs H Q _ => ∃ i : Int, vs = [.int i] ∧ 0 < i ∧ i < 1048576 ∧ ∀ H', Ex H H' → Q (T (ncode i.toNat)) H'
theorem call_law_number_code {i : Int} {H : Hp} {Q : VK} {E : XK} (h1 : 0 < i) (h2 : i < 1048576) (k : ∀ H', Ex H H' → Q (T (ncode i.toNat)) H') : sp_law_number_code [.int i] H Q E := ⟨i, rfl, h1, h2, k⟩
theorem cs_law_number_code {i : Int} {L : List Asn} {H : Hp} {Q : VK} {E : XK} (s : S L H) (h1 : 0 < i) (h2 : i < 1048576) (k : ∀ H', S L H' → Q (T (ncode i.toNat)) H') : sp_law_number_code [.int i] H Q E :=
  call_law_number_code h1 h2 fun H' he => k H' (s.up he)
def sp_law_codes : Sp := fun vs H Q _ => ∃ l : List Nat, vs = [T l] ∧ 0 < l.length ∧ l.length ≤ 1000 ∧ ∀ p H', H p = none → Ex H H' → H' p = some (.tup [T (112 :: l), T (rcode l)]) → Q (.ref p) H'
theorem call_law_codes {l : List Nat} {H : Hp} {Q : VK} {E : XK} (h0 : 0 < l.length) (h1 : l.length ≤ 1000) (k : ∀ p H', H p = none → Ex H H' → H' p = some (.tup [T (112 :: l), T (rcode l)]) → Q (.ref p) H') : sp_law_codes [T l] H Q E := ⟨l, rfl, h0, h1, k⟩
theorem cs_law_codes {l : List Nat} {L : List Asn} {H : Hp} {Q : VK} {E : XK} (s : S L H) (h0 : 0 < l.length) (h1 : l.length ≤ 1000) (k : ∀ p H', S (pts p (.tup [T (112 :: l), T (rcode l)]) :: L) H' → Q (.ref p) H') : sp_law_codes [T l] H Q E :=
  call_law_codes h0 h1 fun p H' hn he hp => k p H' (s.new hn he hp)
def sp_law_block : Sp := fun vs H Q _ => ∃ (u : Addr) (n : Nat), vs = [.ref u] ∧ Urn H u n ∧ n < 400000000 ∧
  ∀ (l : List Nat) (H' : Hp), Bits l → 0 < l.length → l.length ≤ 64 → Urn H' u (n + 2102) → But u H H' → Q (T l) H'
theorem call_law_block {u : Addr} {n : Nat} {H : Hp} {Q : VK} {E : XK} (h1 : Urn H u n) (h2 : n < 400000000)
    (k : ∀ (l : List Nat) (H' : Hp), Bits l → 0 < l.length → l.length ≤ 64 → Urn H' u (n + 2102) → But u H H' → Q (T l) H') : sp_law_block [.ref u] H Q E := ⟨u, n, rfl, h1, h2, k⟩
theorem cs_law_block {u : Addr} {n : Nat} {L M : List Asn} {H : Hp} {Q : VK} {E : XK} (s : S L H) (p : Pick (AUrn u n) L M) (h2 : n < 400000000)
    (k : ∀ (l : List Nat) (H' : Hp), Bits l → 0 < l.length → l.length ≤ 64 → S (AUrn u (n + 2102) :: M) H' → Q (T l) H') : sp_law_block [.ref u] H Q E := by
  obtain ⟨hu, k0⟩ := (s.pick p).urn
  exact call_law_block hu h2 fun l H' h0 h1 h2 hu b => k l H' h0 h1 h2 (k0 H' _ hu b)
def sp_law_goes_on : Sp := fun vs H Q _ => ∃ (l : List Nat) (L : List Asn), vs = [T l] ∧ S L H ∧ l.length ≤ 600 ∧ ∀ H', S L H' → Q (.int (goes l : Nat)) H'
theorem cs_law_goes_on {l : List Nat} {L : List Asn} {H : Hp} {Q : VK} {E : XK} (s : S L H) (hl : l.length ≤ 600) (k : ∀ H', S L H' → Q (.int (goes l : Nat)) H') : sp_law_goes_on [T l] H Q E := ⟨l, L, rfl, s, hl, k⟩
def sp_law_code_due : Sp := fun vs H Q _ => ∃ (v : V) (L : List Asn), vs = [v] ∧ S L H ∧ ((∃ x : List Nat, v = T x ∧ x.length ≤ 600 ∧
  (∀ q : Nat, CodeErr x q → ∀ p H', S (pts p (.tup [T [78, 111, 67, 111, 100, 101], .int (q : Nat)]) :: L) H' → Q (.ref p) H') ∧
  (CodeOk x → ∀ p H', S (pts p (.tup [T [116, 111, 108, 100], T (blkOf x)]) :: L) H' → Q (.ref p) H')) ∨
  (Odd H v ∧ ∀ p H', S (pts p (.tup [T [78, 111, 67, 111, 100, 101], .non]) :: L) H' → Q (.ref p) H'))
theorem cx_law_code_due {L : List Asn} {H : Hp} {Q : VK} {E : XK} {x : List Nat} (s : S L H) (hl : x.length ≤ 600)
    (k1 : ∀ q : Nat, CodeErr x q → ∀ p H', S (pts p (.tup [T [78, 111, 67, 111, 100, 101], .int (q : Nat)]) :: L) H' → Q (.ref p) H')
    (k2 : CodeOk x → ∀ p H', S (pts p (.tup [T [116, 111, 108, 100], T (blkOf x)]) :: L) H' → Q (.ref p) H') : sp_law_code_due [T x] H Q E := ⟨_, L, rfl, s, .inl ⟨x, rfl, hl, k1, k2⟩⟩
theorem cx_law_code_dueO {L : List Asn} {H : Hp} {Q : VK} {E : XK} {v : V} (s : S L H) (ho : Odd H v) (k1 : ∀ p H', S (pts p (.tup [T [78, 111, 67, 111, 100, 101], .non]) :: L) H' → Q (.ref p) H') : sp_law_code_due [v] H Q E := ⟨_, L, rfl, s, .inr ⟨ho, k1⟩⟩
def sp_law_block_of : Sp := fun vs H Q _ => ∃ (l : List Nat) (L : List Asn), vs = [T l] ∧ S L H ∧ l.length ≤ 600 ∧ CodeOk l ∧ ∀ H', S L H' → Q (T (blkOf l)) H'
theorem cs_law_block_of {l : List Nat} {L : List Asn} {H : Hp} {Q : VK} {E : XK} (s : S L H) (hl : l.length ≤ 600) (ok : CodeOk l) (k : ∀ H', S L H' → Q (T (blkOf l)) H') : sp_law_block_of [T l] H Q E := ⟨l, L, rfl, s, hl, ok, k⟩
def sp_law_spoilt_code : Sp := fun vs H Q _ => ∃ (u : Addr) (n : Nat) (x : List Nat) (L : List Asn), vs = [.ref u, T x] ∧ S (AUrn u n :: L) H ∧ n < 40000000 ∧ 0 < x.length ∧ x.length ≤ 300 ∧ Sm x ∧
  ∀ y H', y.length ≤ x.length + 1 → Sm y → S (AUrn u (n + 3) :: L) H' → Q (T y) H'
theorem cs_law_spoilt_code {u : Addr} {n : Nat} {x : List Nat} {L M : List Asn} {H : Hp} {Q : VK} {E : XK} (s : S L H) (p : Pick (AUrn u n) L M) (hn : n < 40000000) (h0 : 0 < x.length) (hl : x.length ≤ 300) (sx : Sm x)
    (k : ∀ y H', y.length ≤ x.length + 1 → Sm y → S (AUrn u (n + 3) :: M) H' → Q (T y) H') : sp_law_spoilt_code [.ref u, T x] H Q E := ⟨u, n, x, M, rfl, s.pick p, hn, h0, hl, sx, k⟩
def sp_law_looked_right (K : PySem.W.Frag) : Sp := fun vs H Q _ => ∃ (w : V × PyData) (ws : List (V × PyData)) (L : List Asn), vs = [w.1] ∧ w ∈ ws ∧ (∀ x : List Nat, w.1 = T x → x.length ≤ 600) ∧ S (AThs 20000 ws :: AT K "_law_looked_right" :: L) H ∧
  ∀ H', S (AThs 20000 ws :: AT K "_law_looked_right" :: L) H' → Q (.bl true) H'
theorem cx_looked_right {K : PySem.W.Frag} {w : V × PyData} {ws : List (V × PyData)} {L M N : List Asn} {H : Hp} {Q : VK} {E : XK} (s : S L H) (p : Pick (AThs 20000 ws) L M) (q : Pick (AT K "_law_looked_right") M N) (hw : w ∈ ws) (hsh : ∀ x : List Nat, w.1 = T x → x.length ≤ 600) (k : ∀ H', S (AThs 20000 ws :: AT K "_law_looked_right" :: N) H' → Q (.bl true) H') : sp_law_looked_right K [w.1] H Q E :=
  ⟨w, ws, N, rfl, hw, hsh, s.pull2 p q, k⟩
def Short (W : List (V × PyData)) : Prop := ∀ w ∈ W, ∀ x : List Nat, w.1 = T x → x.length ≤ 600
theorem txt_inj {x y : List Nat} (h : T x = T y) : x = y := by
  injection h with h
  injection h with h
  simpa using h
theorem Short.snoc {W : List (V × PyData)} {y : List Nat} (h : Short W) (hl : y.length ≤ 600) : Short (W ++ [(T y, Dt y)]) := fun w hw x e => by
  rcases List.mem_append.mp hw with z | z
  · exact h w z x e
  · rw [List.mem_singleton.mp z] at e
    rw [← txt_inj e]; exact hl
theorem Short.odd {H : Hp} {v : V} {d : PyData} {L M : List Asn} (s : S L H) (p : Pick (AOdd v d) L M) : Short [(v, d)] := fun w hw x e => by
  obtain ⟨h, g, a, _, ex, _⟩ := S.pick p s
  rw [List.mem_singleton.mp hw] at e
  rcases a.2.2 with ⟨y, ey, hy, _⟩ | o
  · have : v = T y := congrArg Prod.fst ey
    have e2 : T y = T x := this.symm.trans e
    rw [← txt_inj e2]; omega
  · have e2 : v = T x := e
    have o2 : Odd h v := o
    rw [e2] at o2; cases o2
theorem Short.sub {W W' : List (V × PyData)} (h : Short W) (m : ∀ w ∈ W', w ∈ W) : Short W' := fun w hw => h w (m w hw)
theorem ths_snoc {W : List (V × PyData)} {L : List Asn} {H : Hp} {y : List Nat} (s : S (AThs 20000 W :: L) H) (hl : y.length ≤ 600) (hs : Sm y) : S (AThs 20000 (W ++ [(T y, Dt y)]) :: L) H := s.thsT (by omega) hs
theorem fst_snoc (W : List (V × PyData)) (y : List Nat) : W.map Prod.fst ++ [T y] = (W ++ [(T y, Dt y)]).map Prod.fst := by rw [List.map_append]; rfl
def sp_law (K : PySem.W.Frag) : Sp := fun vs H Q _ => ∃ (a : Addr) (ns : List Int), vs = [.ref a] ∧ S [AT K "_law_looked_right", ASq K a (ns.map V.int)] H ∧ ns.length ≤ 63 ∧ ∀ H', Q (.bl true) H'
end My
namespace My
open PySem PySem.Spec PyProof.Rows L2 Z
section
local macro_rules | `(tactic| walk_at "sd") => `(tactic| first
  | with_reducible assumption
  | omega
  | (simp only [List.length_append, List.length_cons, List.length_nil, List.length_replicate, rep_len, List.length_map, List.length_set, List.length_range]; omega)
  | decide)
local macro_rules | `(tactic| walk_at "sdr") => `(tactic| first
  | with_reducible exact rfl
  | with_reducible assumption
  | (with_reducible refine fun n => n ?_; with_reducible exact rfl)
  | omega)
local macro_rules | `(tactic| walk_at "lk") => `(tactic| first
  | with_reducible assumption
  | exact Ex.at_ (by with_reducible assumption) (by walk_at "lk")
  | exact But.at_ (by with_reducible assumption) (by walk_at "ne") (by walk_at "lk")
  | exact S.at_ (by with_reducible assumption) (by walk_at "pk"))
local macro_rules | `(tactic| walk_at "pk") => `(tactic| first
  | with_reducible exact Pick.head
  | ((with_reducible refine' Pick.tail ?pkx); (case pkx => walk_at "pk"))
  | fail "none")
local macro_rules | `(tactic| walk_at "pk2") => `(tactic| walk_at "pk")
local macro_rules | `(tactic| walk_at "rp") => `(tactic| first
  | with_reducible exact Rep.head
  | ((with_reducible refine' Rep.tail ?rpx); (case rpx => walk_at "rp"))
  | fail "none")
local macro_rules | `(tactic| walk_at "pkd") => `(tactic| first
  | exact Pick.head
  | ((with_reducible refine' Pick.tail ?pkx); (case pkx => walk_at "pkd"))
  | fail "none")
local macro_rules | `(tactic| walk_at "sq") => `(tactic| first
  | assumption
  | exact S.sq (by with_reducible assumption) (by walk_at "pkd"))
local macro_rules | `(tactic| walk_at "pull") => `(tactic| exact S.pull (by with_reducible assumption) (by walk_at "pk"))
local macro_rules | `(tactic| walk_at "pull2") => `(tactic| exact S.pull2 (by with_reducible assumption) (by walk_at "pk") (by walk_at "pk"))
local macro_rules | `(tactic| walk_at "pull3") => `(tactic| exact S.pull3 (by with_reducible assumption) (by walk_at "pk") (by walk_at "pk") (by walk_at "pk"))
local macro_rules | `(tactic| walk_at "sbb") => `(tactic| first
  | with_reducible exact Sub.refl
  | with_reducible exact Sub.nil
  | ((with_reducible refine' Sub.cons ?p ?s); (case p => walk_at "pk"); (case s => walk_at "sbb"))
  | ((with_reducible refine' Sub.drop ?sbx); (case sbx => walk_at "sbb"))
  | fail "none")
local macro_rules | `(tactic| walk_at "sub") => `(tactic| exact S.to (by with_reducible assumption) (by walk_at "sbb"))
local macro_rules | `(tactic| walk_at "ne") => `(tactic| first
  | with_reducible assumption
  | exact Ne.symm (by with_reducible assumption)
  | exact ne_new (by with_reducible assumption) (by walk_at "lk")
  | exact Ne.symm (ne_new (by with_reducible assumption) (by walk_at "lk"))
  | exact Urn.ne_new (by with_reducible assumption) (by walk_at "ur")
  | exact Ne.symm (Urn.ne_new (by with_reducible assumption) (by walk_at "ur"))
  | exact S.ne (by with_reducible assumption) (by walk_at "pk") (by walk_at "pk") rfl)
local macro_rules | `(tactic| walk_at "ur") => `(tactic| first
  | with_reducible assumption
  | exact Urn.ex (by with_reducible assumption) (by walk_at "ur")
  | exact Urn.but (by with_reducible assumption) (by walk_at "ne") (by walk_at "ur"))
local macro_rules | `(tactic| walk_at "row") => `(tactic| first
  | with_reducible assumption
  | exact RowAt.exx (by with_reducible assumption) (by walk_at "ex"))
local macro_rules | `(tactic| walk_at "dp") => `(tactic| first
  | with_reducible exact Dp.str _
  | with_reducible exact Dp.int _
  | with_reducible exact Dp.bl _
  | with_reducible exact Dp.non
  | with_reducible assumption
  | ((with_reducible refine' Dp.lst (SqL.of ?h0) ?h1); (case h0 => walk_at "lk"); (case h1 => walk_at "da"))
  | ((with_reducible refine' Dp.tup (SqT.of ?h0) ?h1); (case h0 => walk_at "lk"); (case h1 => walk_at "da"))
  | exact Dp.int _
  | exact Dp.str _)
local macro_rules | `(tactic| walk_at "da") => `(tactic| first
  | exact DpAll.nil
  | ((with_reducible refine' DpAll.cons ?h0 ?h1); (case h0 => walk_at "dp"); (case h1 => walk_at "da"))
  | with_reducible assumption)
local macro_rules | `(tactic| walk_at "ex") => `(tactic| first
  | with_reducible assumption
  | exact Ex.refl _
  | (refine Ex.trans ?_ (by with_reducible assumption); walk_at "ex"))
local macro_rules | `(tactic| walk_at "at") => `(tactic| first
  | with_reducible assumption
  | exact rfl
  | exact atI_nat (by with_reducible assumption)
  | exact atI_last _ _
  | exact at2_0 (by assumption)
  | exact at2_1 (by assumption)
  | exact at3_0 (by assumption)
  | exact at3_1 (by assumption)
  | exact at3_2 (by assumption))
local macro_rules | `(tactic| walk_at "ix") => `(tactic| first
  | exact rfl
  | assumption
  | exact ix_0 (by assumption)
  | exact ix_1 (by assumption)
  | exact ix_2 (by assumption))
local macro_rules | `(tactic| walk_at "s") => `(tactic| first
  | ((with_reducible refine' gdS ?_); first
    | ((with_reducible refine' norm ?h0 ?_); (case h0 => (dsimp only [List.set_cons_zero, List.set_cons_succ] <;> exact rfl)))
    | ((with_reducible refine' gh_tSeq ?_); first
      | ((with_reducible refine' seq_asg ?_))
      | ((with_reducible refine' seq_if ?_))
      | ((with_reducible refine' seq_asgG ?_))
      | ((with_reducible refine' seq_par ?_))
      | ((with_reducible refine' seq_aug ?h0 ?_); (case h0 => exact rfl))
      | ((with_reducible refine' seq_drop ?_))
      | ((with_reducible refine' seq_fld ?_))
      | ((with_reducible refine' seq_raiseE ?_))
      | ((with_reducible refine' seq_asg2 ?_))
      | ((with_reducible refine' seq_fldA ?_))
      | ((with_reducible refine' seq_for ?_))
      | ((with_reducible refine' seq_par3 ?_))
      | ((with_reducible refine' seq_ ?_))
      | fail "none")
    | ((with_reducible refine' asg_ ?_))
    | ((with_reducible refine' ret_ ?_))
    | ((with_reducible refine' if_ ?_))
    | ((with_reducible refine' asgG_ ?_))
    | ((with_reducible refine' par_ ?_))
    | ((with_reducible refine' aug_ ?h0 ?_); (case h0 => exact rfl))
    | ((with_reducible refine' augS_ ?_))
    | ((with_reducible refine' drop_ ?_))
    | ((with_reducible refine' fldS_ ?_))
    | ((with_reducible refine' raiseE_ ?_))
    | ((with_reducible refine' asg2_ ?_))
    | ((with_reducible refine' fldA_ ?_))
    | ((with_reducible refine' errS_ ?_))
    | ((with_reducible refine' for_ ?_))
    | ((with_reducible refine' par3_ ?_))
    | ((with_reducible refine' next_ ?_))
    | ((with_reducible refine' nx_ ?h0 ?_); (case h0 => (dsimp only <;> exact rfl)))
    | ((with_reducible refine' brk_ ?_))
    | ((with_reducible refine' cont_ ?_))
    | ((with_reducible refine' bk_ ?h0 ?_); (case h0 => (dsimp only <;> exact rfl)))
    | ((with_reducible refine' ct_ ?h0 ?_); (case h0 => (dsimp only <;> exact rfl)))
    | fail "none")
  | ((with_reducible refine' gdE ?_); first
    | ((with_reducible refine' var_ ?h0 ?_); (case h0 => exact rfl))
    | ((with_reducible refine' c_ ?_))
    | ((with_reducible refine' op_ ?_))
    | ((with_reducible refine' cb_ ?_))
    | ((with_reducible refine' c1_ ?_))
    | ((with_reducible refine' orT_ ?_))
    | ((with_reducible refine' tup_ ?_))
    | ((with_reducible refine' lst_ ?_))
    | ((with_reducible refine' un_ ?_))
    | ((with_reducible refine' sl_ ?_))
    | ((with_reducible refine' bm_ ?_))
    | ((with_reducible refine' fld_ ?_))
    | ((with_reducible refine' ck_ ?_))
    | ((with_reducible refine' mk_ ?_))
    | ((with_reducible refine' kk_ ?_))
    | ((with_reducible refine' fmt_ ?_))
    | ((with_reducible refine' errI_ ?_))
    | ((with_reducible refine' chain_ ?_))
    | ((with_reducible refine' slT_ ?_))
    | ((with_reducible refine' notV_ ?_))
    | ((with_reducible refine' sumK_ ?_))
    | ((with_reducible refine' revL_ ?_))
    | ((with_reducible refine' m1_ ?_))
    | ((with_reducible refine' revS_ ?_))
    | ((with_reducible refine' lc_ ?_))
    | ((with_reducible refine' ifE_ ?_))
    | ((with_reducible refine' andV_ ?_))
    | ((with_reducible refine' orV_ ?_))
    | fail "none")
  | ((with_reducible refine' gdR ?_); first
    | ((with_reducible refine' gh_rAddZ ?_); first
      | ((with_reducible refine' addI ?_))
      | ((with_reducible refine' addS ?h0 ?_); (case h0 => walk_at "sd"))
      | ((with_reducible refine' addL ?h0 ?h1 ?h2 (fun p H' hn he hp => ?_)); (case h0 => walk_at "lk"); (case h1 => walk_at "lk"); (case h2 => walk_at "sd"))
      | fail "none")
    | ((with_reducible refine' subI ?_))
    | ((with_reducible refine' gh_rIxZ ?_); first
      | ((with_reducible refine' ixS ?h0 ?h1 ?_); (case h0 => walk_at "sd"); (case h1 => walk_at "at"))
      | ((with_reducible refine' ixL ?h0 ?h1 ?_); (case h0 => walk_at "lk"); (case h1 => walk_at "at"))
      | ((with_reducible refine' ixU ?h0 ?h1 ?_); (case h0 => walk_at "lk"); (case h1 => walk_at "at"))
      | ((with_reducible refine' ixSq ?h0 ?h1 ?_); (case h0 => walk_at "sq"); (case h1 => walk_at "at"))
      | fail "none")
    | ((with_reducible refine' gh_rMulZ ?_); first
      | ((with_reducible refine' mulI ?h0 ?_); (case h0 => first | exact mul_ok1 (by omega) (by omega) | exact mul_ok2 (by omega) (by omega) | with_reducible assumption))
      | ((with_reducible refine' mulS ?h0 ?h1 ?h2 ?_); (case h0 => walk_at "sd"); (case h1 => walk_at "sd"); (case h2 => walk_at "sd"))
      | ((with_reducible refine' mulL ?h0 ?h1 ?h2 ?h3 (fun p H' hn he hp => ?_)); (case h0 => walk_at "lk"); (case h1 => walk_at "sd"); (case h2 => walk_at "sd"); (case h3 => walk_at "sd"))
      | fail "none")
    | ((with_reducible refine' divI ?h0 ?h1 ?_); (case h0 => walk_at "sd"); (case h1 => walk_at "sd"))
    | ((with_reducible refine' modI ?h0 ?_); (case h0 => walk_at "sd"))
    | ((with_reducible refine' powI ?h0 ?_); (case h0 => first | with_reducible assumption | exact pow_ok (by decide)))
    | ((with_reducible refine' ltI ?_))
    | ((with_reducible refine' leI ?_))
    | ((with_reducible refine' gtI ?_))
    | ((with_reducible refine' geI ?_))
    | ((with_reducible refine' gh_rEqZ ?_); first
      | ((with_reducible refine' eqII ?_))
      | ((with_reducible refine' eqSS ?_))
      | ((with_reducible refine' eqI ?_))
      | ((with_reducible refine' eqS ?_))
      | fail "none")
    | ((with_reducible refine' gh_rNeZ ?_); first
      | ((with_reducible refine' neSS ?_))
      | ((with_reducible refine' neI ?_))
      | ((with_reducible refine' neS ?_))
      | fail "none")
    | ((with_reducible refine' inS ?_))
    | ((with_reducible refine' niS ?_))
    | ((with_reducible refine' negI ?_))
    | ((with_reducible refine' getL_ ?h0 ?h1 ?_); (case h0 => walk_at "lk"); (case h1 => walk_at "at"))
    | ((with_reducible refine' iaddI ?_))
    | ((with_reducible refine' iaddS ?h0 ?_); (case h0 => walk_at "sd"))
    | ((with_reducible refine' isubI ?_))
    | ((with_reducible refine' imulI ?h0 ?h1 ?_); (case h0 => walk_at "sd"); (case h1 => walk_at "sd"))
    | ((with_reducible refine' idivI ?h0 ?h1 ?_); (case h0 => walk_at "sd"); (case h1 => walk_at "sd"))
    | ((with_reducible refine' addA_ ?_))
    | ((with_reducible refine' subA_ ?_))
    | ((with_reducible refine' eqO_ ?h0 ?h1 ?_); (case h0 => walk_at "lk"); (case h1 => walk_at "lk"))
    | ((with_reducible refine' neO_ ?h0 ?h1 ?_); (case h0 => walk_at "lk"); (case h1 => walk_at "lk"))
    | ((with_reducible refine' gh_rIsN ?_); first
      | ((with_reducible refine' isN_T ?_))
      | ((with_reducible refine' isN_I ?_))
      | ((with_reducible refine' isN_B ?_))
      | ((with_reducible refine' isN_R ?_))
      | ((with_reducible refine' isN_N ?_))
      | fail "none")
    | ((with_reducible refine' gh_rNotN ?_); first
      | ((with_reducible refine' noN_T ?_))
      | ((with_reducible refine' noN_I ?_))
      | ((with_reducible refine' noN_R ?_))
      | ((with_reducible refine' noN_N ?_))
      | fail "none")
    | fail "none")
  | ((with_reducible refine' gdC ?_); first
    | ((with_reducible refine' gh_rLenZ ?_); first
      | ((with_reducible refine' lenS ?h0 ?_); (case h0 => walk_at "sd"))
      | ((with_reducible refine' lenL ?h0 ?_); (case h0 => walk_at "lk"))
      | ((with_reducible refine' lenU ?h0 ?_); (case h0 => walk_at "lk"))
      | ((with_reducible refine' lenSq ?h0 ?_); (case h0 => walk_at "sq"))
      | fail "none")
    | ((with_reducible refine' ztup_ ?h0 (fun p H' hn he hp => ?_)); (case h0 => walk_at "sd"))
    | ((with_reducible refine' zlst_ ?h0 (fun p H' hn he hp => ?_)); (case h0 => walk_at "sd"))
    | ((with_reducible refine' append_ ?h0 ?h1 (fun H' hp hb => ?_)); (case h0 => walk_at "lk"); (case h1 => walk_at "sd"))
    | ((with_reducible refine' listof_ ?h0 (fun p H' hn he hp => ?_)); (case h0 => walk_at "lk"))
    | ((with_reducible refine' listofU_ ?h0 (fun p H' hn he hp => ?_)); (case h0 => walk_at "lk"))
    | ((with_reducible refine' tupof_ ?h0 (fun p H' hn he hp => ?_)); (case h0 => walk_at "lk"))
    | ((with_reducible refine' tupofU_ ?h0 ?_); (case h0 => walk_at "lk"))
    | ((with_reducible refine' own1_ ?h0 ?_); (case h0 => walk_at "lk"))
    | ((with_reducible refine' gh_rIsZ ?_); first
      | ((with_reducible refine' isO_ ?h0 ?h1 ?h2 ?_); (case h0 => walk_at "lk"); (case h1 => assumption); (case h2 => assumption))
      | ((with_reducible refine' isOstr_ ?h0 ?_); (case h0 => assumption))
      | ((with_reducible refine' isOint_ ?h0 ?_); (case h0 => assumption))
      | ((with_reducible refine' isObl_ ?h0 ?_); (case h0 => assumption))
      | ((with_reducible refine' isOnon_ ?h0 ?_); (case h0 => assumption))
      | ((with_reducible refine' isOlst_ ?h0 ?h1 ?_); (case h0 => walk_at "lk"); (case h1 => assumption))
      | ((with_reducible refine' isOtup_ ?h0 ?h1 ?_); (case h0 => walk_at "lk"); (case h1 => assumption))
      | ((with_reducible refine' isLL_ ?h0 ?_); (case h0 => walk_at "lk"))
      | ((with_reducible refine' isTT_ ?h0 ?_); (case h0 => walk_at "lk"))
      | ((with_reducible refine' isII_ ?_))
      | ((with_reducible refine' isIB_ ?_))
      | ((with_reducible refine' isSS_ ?_))
      | fail "none")
    | ((with_reducible refine' rng1_ (fun p H' hn he hp => ?_)))
    | ((with_reducible refine' rng2_ (fun p H' hn he hp => ?_)))
    | ((with_reducible refine' listRng_ ?h0 ?h1 ?h2 ?h3 ?h4 (fun p H' hn he hp => ?_)); (case h0 => walk_at "lk"); (case h1 => walk_at "sd"); (case h2 => walk_at "sd"); (case h3 => walk_at "sd"); (case h4 => walk_at "sd"))
    | ((with_reducible refine' extend_ ?h0 ?h1 ?h2 (fun H' hp hb => ?_)); (case h0 => walk_at "lk"); (case h1 => walk_at "lk"); (case h2 => walk_at "sd"))
    | ((with_reducible refine' count_ ?_))
    | ((with_reducible refine' strI_ ?h0 ?h1 ?_); (case h0 => walk_at "sd"); (case h1 => walk_at "sd"))
    | ((with_reducible refine' strZS_ ?_))
    | ((with_reducible refine' strZI_ ?h0 ?h1 ?_); (case h0 => walk_at "sd"); (case h1 => walk_at "sd"))
    | ((with_reducible refine' divmod_ ?h0 ?h1 (fun p H' hn he hp => ?_)); (case h0 => walk_at "sd"); (case h1 => walk_at "sd"))
    | ((with_reducible refine' abs_ ?_))
    | ((with_reducible refine' min2_ ?_))
    | ((with_reducible refine' max2_ ?_))
    | ((with_reducible refine' gh_rIntZ ?_); first
      | ((with_reducible refine' intI_ ?_))
      | ((with_reducible refine' intB_ ?_))
      | ((with_reducible refine' intS_ ?h0 ?_); (case h0 => assumption))
      | fail "none")
    | fail "none")
  | ((with_reducible refine' gdT ?_); first
    | ((with_reducible refine' test_ ?_))
    | ((with_reducible refine' tb_ ?_))
    | ((with_reducible refine' truth_ ?_))
    | ((with_reducible refine' not_ ?_))
    | ((with_reducible refine' and_ ?_))
    | ((with_reducible refine' or_ ?_))
    | ((with_reducible refine' tyes_ ?_))
    | fail "none")
  | ((with_reducible refine' gdV ?_); first
    | ((with_reducible refine' zb_ ?_))
    | ((with_reducible refine' ztru_b ?_))
    | ((with_reducible refine' ztru_S ?h0 ?_); (case h0 => walk_at "sd"))
    | ((with_reducible refine' zpart_ ?_))
    | ((with_reducible refine' zbmL_ ?h0 ?_); (case h0 => walk_at "lk"))
    | ((with_reducible refine' zfld_ ?h0 ?h1 ?h2 ?h3 ?_); (case h0 => walk_at "lk"); (case h1 => assumption); (case h2 => assumption); (case h3 => exact rfl))
    | ((with_reducible refine' zset_ ?h0 ?h1 ?h2 ?h3 ?h4 (fun H' hp hb => ?_)); (case h0 => walk_at "lk"); (case h1 => assumption); (case h2 => assumption); (case h3 => walk_at "sd"); (case h4 => (simp (decide := true) only [putF, if_false, if_true] <;> exact rfl)))
    | ((with_reducible refine' zmeth_ ?h0 ?h1 ?_); (case h0 => walk_at "lk"); (case h1 => exact rfl))
    | ((with_reducible refine' zjs_ ?h0 ?_); (case h0 => walk_at "sd"))
    | ((with_reducible refine' zfmtS_ ?h0 ?_); (case h0 => walk_at "sd"))
    | ((with_reducible refine' zfmtI_ ?h0 ?h1 ?_); (case h0 => walk_at "sd"); (case h1 => walk_at "sd"))
    | ((with_reducible refine' zfldA_ ?h0 ?h1 ?h2 ?h3 ?_); (case h0 => walk_at "lk"); (case h1 => assumption); (case h2 => assumption); (case h3 => exact rfl))
    | ((with_reducible refine' zsetA_ ?h0 ?h1 ?h2 (fun H' hp hb => ?_)); (case h0 => walk_at "lk"); (case h1 => walk_at "sd"); (case h2 => (simp (decide := true) only [putF, if_false, if_true] <;> exact rfl)))
    | ((with_reducible refine' isLen_ ?h0 ?_); (case h0 => walk_at "sd"))
    | ((with_reducible refine' isTxt_ ?_))
    | ((with_reducible refine' zerrS_ ?h0 ?h1 ?h2 (fun dx nd ne => ?_)); (case h0 => assumption); (case h1 => assumption); (case h2 => walk_at "lk"))
    | ((with_reducible refine' zlink_dt ?h0 ?_); (case h0 => walk_at "sd"))
    | ((with_reducible refine' zlink_df ?h0 ?_); (case h0 => walk_at "sd"))
    | ((with_reducible refine' isLenB_ ?h0 ?_); (case h0 => walk_at "sd"))
    | ((with_reducible refine' znotv_ ?_))
    | ((with_reducible refine' zrevL_ ?h0 (fun p H' hn he hp => ?_)); (case h0 => walk_at "lk"))
    | ((with_reducible refine' zm1_ ?_))
    | ((with_reducible refine' zlist_ ?h0 ?_); (case h0 => walk_at "lk"))
    | ((with_reducible refine' zlistQ_ ?h0 ?_); (case h0 => walk_at "sq"))
    | ((with_reducible refine' zstr_ ?_))
    | ((with_reducible refine' zrevS_ ?h0 ?_); (case h0 => walk_at "sd"))
    | ((with_reducible refine' zandv_t ?_))
    | ((with_reducible refine' zandv_f ?_))
    | ((with_reducible refine' zorv_t ?_))
    | ((with_reducible refine' zorv_f ?_))
    | ((with_reducible refine' rt_ ?h0 ?_); (case h0 => (dsimp only <;> exact rfl)))
    | fail "none")
  | ((with_reducible refine' gdB ?_); first
    | ((with_reducible refine' gh_zIf ?_); first
      | ((with_reducible refine' zif_t ?_))
      | ((with_reducible refine' zif_f ?_))
      | ((with_reducible refine' zif_nT ?_))
      | ((with_reducible refine' zif_nF ?_))
      | ((with_reducible refine' zif_dt ?h0 ?_); (case h0 => walk_at "sd"))
      | ((with_reducible refine' zif_df ?h0 ?_); (case h0 => walk_at "sd"))
      | ((with_reducible refine' zif_nt ?h0 ?_); (case h0 => walk_at "sd"))
      | ((with_reducible refine' zif_nf ?h0 ?_); (case h0 => walk_at "sd"))
      | fail "none")
    | ((with_reducible refine' gh_zOr ?_); first
      | ((with_reducible refine' zor_nT ?_))
      | ((with_reducible refine' zor_nF ?_))
      | ((with_reducible refine' zor_t ?_))
      | ((with_reducible refine' zor_f ?_))
      | fail "none")
    | ((with_reducible refine' gh_zAnd ?_); first
      | ((with_reducible refine' zand_nT ?_))
      | ((with_reducible refine' zand_nF ?_))
      | ((with_reducible refine' zand_t ?_))
      | ((with_reducible refine' zand_f ?_))
      | fail "none")
    | ((with_reducible refine' zife_t ?_))
    | ((with_reducible refine' zife_f ?_))
    | ((with_reducible refine' zput_t ?_))
    | fail "none")
  | ((with_reducible refine' gdG ?_); first
    | ((with_reducible refine' gtup_ ?h0 ?h1 ?_); (case h0 => walk_at "lk"); (case h1 => rfl))
    | ((with_reducible refine' gcons_ ?_))
    | ((with_reducible refine' gname_ ?_))
    | ((with_reducible refine' gnil_ ?_))
    | ((with_reducible refine' gsub_ ?_))
    | ((with_reducible refine' gslice_ ?_))
    | ((with_reducible refine' gstarT_ ?h0 ?h1 ?h2 ?h3 (fun p H' hn he hp => ?_)); (case h0 => walk_at "lk"); (case h1 => walk_at "sd"); (case h2 => walk_at "sd"); (case h3 => walk_at "sd"))
    | ((with_reducible refine' gstarL_ ?h0 ?h1 ?h2 ?h3 (fun p H' hn he hp => ?_)); (case h0 => walk_at "lk"); (case h1 => walk_at "sd"); (case h2 => walk_at "sd"); (case h3 => walk_at "sd"))
    | fail "none")
  | ((with_reducible refine' gdL ?_); first
    | ((with_reducible refine' zpar_ ?_))
    | ((with_reducible refine' zck_ ?h0 ?h1 ?h2 ?_); (case h0 => rfl); (case h1 => rfl); (case h2 => (dsimp only [List.cons_append, List.nil_append, List.append_nil] <;> exact rfl)))
    | ((with_reducible refine' zkk_ ?h0 ?h1 (fun x dx H' nx ndx ne he hx => ?_)); (case h0 => rfl); (case h1 => rfl))
    | ((with_reducible refine' zenL_ ?h0 ?_); (case h0 => walk_at "lk"))
    | ((with_reducible refine' zzip_ ?h0 ?h1 ?_); (case h0 => walk_at "lk"); (case h1 => walk_at "lk"))
    | ((with_reducible refine' zerrI_ ?h0 ?h1 ?h2 ?_); (case h0 => assumption); (case h1 => walk_at "lk"); (case h2 => walk_at "sd"))
    | ((with_reducible refine' zerr_ (fun d H' nd he hd => ?_)))
    | ((with_reducible refine' zrng3_ ?h0 ?h1 ?h2 ?h3 ?_); (case h0 => walk_at "sd"); (case h1 => walk_at "sd"); (case h2 => walk_at "sd"); (case h3 => walk_at "sd"))
    | ((with_reducible refine' zsumK_ ?h0 ?h1 ?h2 ?_); (case h0 => walk_at "lk"); (case h1 => walk_at "sd"); (case h2 => walk_at "sd"))
    | ((with_reducible refine' zrng1_ ?h0 ?h1 ?_); (case h0 => walk_at "sd"); (case h1 => walk_at "sd"))
    | ((with_reducible refine' zrng2_ ?h0 ?h1 ?h2 ?h3 ?_); (case h0 => walk_at "sd"); (case h1 => walk_at "sd"); (case h2 => walk_at "sd"); (case h3 => walk_at "sd"))
    | ((with_reducible refine' zent_ ?_))
    | ((with_reducible refine' zpar3_ ?_))
    | ((with_reducible refine' zenK_ ?h0 ?h1 ?_); (case h0 => walk_at "sd"); (case h1 => walk_at "sd"))
    | fail "none")
  | ((with_reducible refine' gdI ?_); first
    | ((with_reducible refine' ienL_ ?_))
    | ((with_reducible refine' izip_ ?_))
    | ((with_reducible refine' irng3_ ?_))
    | ((with_reducible refine' ilist_ ?_))
    | ((with_reducible refine' istr_ ?_))
    | ((with_reducible refine' irng1_ ?_))
    | ((with_reducible refine' irng2_ ?_))
    | ((with_reducible refine' ient_ ?_))
    | ((with_reducible refine' ientK_ ?_))
    | fail "none")
  | ((with_reducible refine' cons_ ?_))
  | ((with_reducible refine' nil_ ?_))
  | ((with_reducible refine' nopart_ ?_))
  | ((with_reducible refine' part_ ?_))
  | ((with_reducible refine' slS ?h0 ?_); (case h0 => walk_at "sd"))
  | ((with_reducible refine' slL ?h0 (fun p H' hn he hp => ?_)); (case h0 => walk_at "lk"))
  | ((with_reducible refine' setL_ ?h0 ?h1 (fun H' hp hb => ?_)); (case h0 => walk_at "lk"); (case h1 => first | rfl | assumption))
  | ((with_reducible refine' zsp_ ?h0 ?_); (case h0 => (dsimp only [List.cons_append, List.nil_append, List.append_nil] <;> exact rfl)))
  | ((with_reducible refine' zsls_ ?h0 ?h1 ?h2 ?h3 ?h4 ?h5 (fun H' hp hb => ?_)); (case h0 => walk_at "lk"); (case h1 => walk_at "lk"); (case h2 => walk_at "ne"); (case h3 => walk_at "sd"); (case h4 => walk_at "sd"); (case h5 => walk_at "sd"))
  | ((with_reducible refine' joined_ ?_))
  | ((with_reducible refine' js_ ?_))
  | ((with_reducible refine' jsn_ ?_))
  | ((with_reducible refine' zw_ ?h0 ?_); (case h0 => exact rfl))
  | ((with_reducible refine' listRL_ ?h0 (fun p H' hn he hp => ?_)); (case h0 => walk_at "lk"))
  | ((with_reducible refine' listRU_ ?h0 (fun p H' hn he hp => ?_)); (case h0 => walk_at "lk"))
  | ((with_reducible refine' zslT_ ?h0 ?h1 (fun p H' hn he hp => ?_)); (case h0 => walk_at "lk"); (case h1 => decide))
  | ((with_reducible refine' dget_ ?_))
  | ((with_reducible refine' zdg_ ?h0 ?h1 ?h2 ?_); (case h0 => walk_at "lk"); (case h1 => exact rfl); (case h2 => exact rfl))
  | ((with_reducible refine' prs_ ?_))
  | ((with_reducible refine' prs0_ ?_))
  | ((with_reducible refine' all0_ ?h0 ?_); (case h0 => walk_at "lk"))
  | ((with_reducible refine' itup_ ?_))
  | ((with_reducible refine' inLt_ ?h0 ?h1 ?h2 ?h3 ?_); (case h0 => walk_at "lk"); (case h1 => first | decide | exact rfl); (case h2 => decide); (case h3 => decide))
  | ((with_reducible refine' inLf_ ?h0 ?h1 ?h2 ?h3 ?_); (case h0 => walk_at "lk"); (case h1 => first | decide | exact rfl); (case h2 => decide); (case h3 => decide))
  | ((with_reducible refine' inUt_ ?h0 ?h1 ?h2 ?h3 ?_); (case h0 => walk_at "lk"); (case h1 => first | decide | exact rfl); (case h2 => decide); (case h3 => decide))
  | ((with_reducible refine' inUf_ ?h0 ?h1 ?h2 ?h3 ?_); (case h0 => walk_at "lk"); (case h1 => first | decide | exact rfl); (case h2 => decide); (case h3 => decide))
  | ((with_reducible refine' niLt_ ?h0 ?h1 ?h2 ?h3 ?_); (case h0 => walk_at "lk"); (case h1 => first | decide | exact rfl); (case h2 => decide); (case h3 => decide))
  | ((with_reducible refine' niLf_ ?h0 ?h1 ?h2 ?h3 ?_); (case h0 => walk_at "lk"); (case h1 => first | decide | exact rfl); (case h2 => decide); (case h3 => decide))
  | ((with_reducible refine' ztupi_ ?h0 ?_); (case h0 => walk_at "lk"))
  | ((with_reducible refine' all2t_ ?h0 ?_); (case h0 => walk_at "lk")))
local macro_rules | `(tactic| walk_at "go") => `(tactic| repeat (walk_at "s"))
local macro_rules | `(tactic| walk_at "t") => `(tactic| first
  | ((with_reducible refine' gdR ?_); first
    | ((with_reducible refine' neII_r ?_))
    | ((with_reducible refine' addL ?h0 ?h1 ?h2 (new_S ?n0 fun p H' s => ?_)); (case h0 => walk_at "lk"); (case h1 => walk_at "lk"); (case h2 => walk_at "sd"); (case n0 => with_reducible assumption))
    | ((with_reducible refine' mulL ?h0 ?h1 ?h2 ?h3 (new_S ?n0 fun p H' s => ?_)); (case h0 => walk_at "lk"); (case h1 => walk_at "sd"); (case h2 => walk_at "sd"); (case h3 => walk_at "sd"); (case n0 => with_reducible assumption))
    | fail "none")
  | ((with_reducible refine' gdV ?_); first
    | ((with_reducible refine' put1_S ?h0 ?h1 ?h2 ?h3 (fun H' s => ?_)); (case h0 => assumption); (case h1 => walk_at "rp"); (case h2 => first | (dsimp only [List.nil_append, List.cons_append] <;> exact rfl) | exact rfl); (case h3 => walk_at "sd"))
    | ((with_reducible refine' zset_ ?h0 ?h1 ?h2 ?h3 ?h4 (mut_S ?m0 ?m1 ?m2 fun H' s => ?_)); (case h0 => walk_at "lk"); (case h1 => assumption); (case h2 => assumption); (case h3 => walk_at "sd"); (case h4 => (simp (decide := true) only [putF, if_false, if_true] <;> exact rfl)); (case m0 => with_reducible assumption); (case m1 => walk_at "rp"); (case m2 => rfl))
    | ((with_reducible refine' zsetA_ ?h0 ?h1 ?h2 (mut_S ?m0 ?m1 ?m2 fun H' s => ?_)); (case h0 => walk_at "lk"); (case h1 => walk_at "sd"); (case h2 => (simp (decide := true) only [putF, if_false, if_true] <;> exact rfl)); (case m0 => with_reducible assumption); (case m1 => walk_at "rp"); (case m2 => rfl))
    | ((with_reducible refine' zrevL_ ?h0 (new_S ?n0 fun p H' s => ?_)); (case h0 => walk_at "lk"); (case n0 => with_reducible assumption))
    | fail "none")
  | ((with_reducible refine' gdC ?_); first
    | ((with_reducible refine' ztup_ ?h0 (new_S ?n0 fun p H' s => ?_)); (case h0 => walk_at "sd"); (case n0 => with_reducible assumption))
    | ((with_reducible refine' zlst_ ?h0 (new_S ?n0 fun p H' s => ?_)); (case h0 => walk_at "sd"); (case n0 => with_reducible assumption))
    | ((with_reducible refine' append_ ?h0 ?h1 (mut_S ?m0 ?m1 ?m2 fun H' s => ?_)); (case h0 => walk_at "lk"); (case h1 => walk_at "sd"); (case m0 => with_reducible assumption); (case m1 => walk_at "rp"); (case m2 => rfl))
    | ((with_reducible refine' listof_ ?h0 (new_S ?n0 fun p H' s => ?_)); (case h0 => walk_at "lk"); (case n0 => with_reducible assumption))
    | ((with_reducible refine' listofU_ ?h0 (new_S ?n0 fun p H' s => ?_)); (case h0 => walk_at "lk"); (case n0 => with_reducible assumption))
    | ((with_reducible refine' tupof_ ?h0 (new_S ?n0 fun p H' s => ?_)); (case h0 => walk_at "lk"); (case n0 => with_reducible assumption))
    | ((with_reducible refine' rng1_ (new_S ?n0 fun p H' s => ?_)); (case n0 => with_reducible assumption))
    | ((with_reducible refine' rng2_ (new_S ?n0 fun p H' s => ?_)); (case n0 => with_reducible assumption))
    | ((with_reducible refine' listRng_ ?h0 ?h1 ?h2 ?h3 ?h4 (new_S ?n0 fun p H' s => ?_)); (case h0 => walk_at "lk"); (case h1 => walk_at "sd"); (case h2 => walk_at "sd"); (case h3 => walk_at "sd"); (case h4 => walk_at "sd"); (case n0 => with_reducible assumption))
    | ((with_reducible refine' extend_ ?h0 ?h1 ?h2 (mut_S ?m0 ?m1 ?m2 fun H' s => ?_)); (case h0 => walk_at "lk"); (case h1 => walk_at "lk"); (case h2 => walk_at "sd"); (case m0 => with_reducible assumption); (case m1 => walk_at "rp"); (case m2 => rfl))
    | ((with_reducible refine' divmod_ ?h0 ?h1 (new_S ?n0 fun p H' s => ?_)); (case h0 => walk_at "sd"); (case h1 => walk_at "sd"); (case n0 => with_reducible assumption))
    | fail "none")
  | ((with_reducible refine' gdG ?_); first
    | ((with_reducible refine' gstarT_ ?h0 ?h1 ?h2 ?h3 (new_S ?n0 fun p H' s => ?_)); (case h0 => walk_at "lk"); (case h1 => walk_at "sd"); (case h2 => walk_at "sd"); (case h3 => walk_at "sd"); (case n0 => with_reducible assumption))
    | ((with_reducible refine' gstarL_ ?h0 ?h1 ?h2 ?h3 (new_S ?n0 fun p H' s => ?_)); (case h0 => walk_at "lk"); (case h1 => walk_at "sd"); (case h2 => walk_at "sd"); (case h3 => walk_at "sd"); (case n0 => with_reducible assumption))
    | fail "none")
  | ((with_reducible refine' disp_ ?h0 (fun p H' s => ?_)); (case h0 => assumption))
  | ((with_reducible refine' zdisp_ ?h0 ?h1 ?h2 ?h3 ?h4 (fun H' s => ?_)); (case h0 => assumption); (case h1 => walk_at "rp"); (case h2 => exact rfl); (case h3 => walk_at "sd"); (case h4 => exact rfl))
  | ((with_reducible refine' setL_S ?h0 ?h1 ?h2 ?h3 (fun H' s => ?_)); (case h0 => assumption); (case h1 => walk_at "rp"); (case h2 => walk_at "ix"); (case h3 => first | (dsimp only [List.set_cons_zero, List.set_cons_succ] <;> exact rfl) | exact rfl))
  | ((with_reducible refine' slL ?h0 (new_S ?n0 fun p H' s => ?_)); (case h0 => walk_at "lk"); (case n0 => with_reducible assumption))
  | ((with_reducible refine' setL_ ?h0 ?h1 (mut_S ?m0 ?m1 ?m2 fun H' s => ?_)); (case h0 => walk_at "lk"); (case h1 => first | rfl | assumption); (case m0 => with_reducible assumption); (case m1 => walk_at "rp"); (case m2 => rfl))
  | ((with_reducible refine' zsls_ ?h0 ?h1 ?h2 ?h3 ?h4 ?h5 (mut_S ?m0 ?m1 ?m2 fun H' s => ?_)); (case h0 => walk_at "lk"); (case h1 => walk_at "lk"); (case h2 => walk_at "ne"); (case h3 => walk_at "sd"); (case h4 => walk_at "sd"); (case h5 => walk_at "sd"); (case m0 => with_reducible assumption); (case m1 => walk_at "rp"); (case m2 => rfl))
  | ((with_reducible refine' listRL_ ?h0 (new_S ?n0 fun p H' s => ?_)); (case h0 => walk_at "lk"); (case n0 => with_reducible assumption))
  | ((with_reducible refine' listRU_ ?h0 (new_S ?n0 fun p H' s => ?_)); (case h0 => walk_at "lk"); (case n0 => with_reducible assumption))
  | ((with_reducible refine' zslT_ ?h0 ?h1 (new_S ?n0 fun p H' s => ?_)); (case h0 => walk_at "lk"); (case h1 => decide); (case n0 => with_reducible assumption))
  | walk_at "s"
  | ((with_reducible refine' gdB ?_); first
    | ((with_reducible refine' gh_zIf ?_); first
      | ((with_reducible refine' zif_dt ?h0 ?_); (case h0 => walk_at "sdr"))
      | ((with_reducible refine' zif_df ?h0 ?_); (case h0 => walk_at "sdr"))
      | ((with_reducible refine' zif_nt ?h0 ?_); (case h0 => walk_at "sdr"))
      | ((with_reducible refine' zif_nf ?h0 ?_); (case h0 => walk_at "sdr"))
      | fail "none")
    | ((with_reducible refine' gh_zOr ?_); first
      | ((with_reducible refine' zor_kt ?h0 ?_); (case h0 => walk_at "sdr"))
      | ((with_reducible refine' zor_kf ?h0 ?_); (case h0 => walk_at "sdr"))
      | ((with_reducible refine' zor_dt ?h0 ?_); (case h0 => walk_at "sdr"))
      | ((with_reducible refine' zor_df ?h0 ?_); (case h0 => walk_at "sdr"))
      | fail "none")
    | ((with_reducible refine' gh_zAnd ?_); first
      | ((with_reducible refine' zand_kt ?h0 ?_); (case h0 => walk_at "sdr"))
      | ((with_reducible refine' zand_kf ?h0 ?_); (case h0 => walk_at "sdr"))
      | ((with_reducible refine' zand_dt ?h0 ?_); (case h0 => walk_at "sdr"))
      | ((with_reducible refine' zand_df ?h0 ?_); (case h0 => walk_at "sdr"))
      | fail "none")
    | ((with_reducible refine' gh_zPut ?_); first
      | ((with_reducible refine' zput_dt ?h0 ?_); (case h0 => walk_at "sdr"))
      | ((with_reducible refine' zput_df ?h0 ?_); (case h0 => walk_at "sdr"))
      | ((with_reducible refine' zput_nt ?h0 ?_); (case h0 => walk_at "sdr"))
      | ((with_reducible refine' zput_nf ?h0 ?_); (case h0 => walk_at "sdr"))
      | fail "none")
    | ((with_reducible refine' zife_dt ?h0 ?_); (case h0 => walk_at "sdr"))
    | ((with_reducible refine' zife_df ?h0 ?_); (case h0 => walk_at "sdr"))
    | fail "none")
  | ((with_reducible refine' gdV ?_); first
    | ((with_reducible refine' zandv_dt ?h0 ?_); (case h0 => walk_at "sdr"))
    | ((with_reducible refine' zandv_df ?h0 ?_); (case h0 => walk_at "sdr"))
    | ((with_reducible refine' zorv_dt ?h0 ?_); (case h0 => walk_at "sdr"))
    | ((with_reducible refine' zorv_df ?h0 ?_); (case h0 => walk_at "sdr"))
    | ((with_reducible refine' zlink_dt ?h0 ?_); (case h0 => walk_at "sdr"))
    | ((with_reducible refine' zlink_df ?h0 ?_); (case h0 => walk_at "sdr"))
    | ((with_reducible refine' exB_ ?_))
    | ((with_reducible refine' exN_ ?_))
    | fail "none")
  | ((with_reducible refine' gdC ?_); first
    | ((with_reducible refine' reprB_ ?h0 ?h1 ?_); (case h0 => assumption); (case h1 => walk_at "sd"))
    | ((with_reducible refine' reprI_ ?h0 ?h1 ?_); (case h0 => walk_at "sd"); (case h1 => walk_at "sd"))
    | fail "none")
  | ((with_reducible refine' ret_tt ?h0 ?_); (case h0 => walk_at "sdr"))
  | fail "none")
local macro_rules | `(tactic| walk_at "gs") => `(tactic| repeat (walk_at "t"))
local macro_rules | `(tactic| walk_at "s") => `(tactic| first
  | ((with_reducible refine' gdP ?_); first
    | ((with_reducible refine' call_other_bit ?h0 ?_); (case h0 => assumption))
    | ((with_reducible refine' call_law_urn ?h0 ?h1 ?h2 ?h3 (fun u H' hn he hu => ?_)); (case h0 => assumption); (case h1 => walk_at "sd"); (case h2 => walk_at "sd"); (case h3 => walk_at "sd"))
    | ((with_reducible refine' call_law_draw ?h0 ?h1 ?h2 ?h3 (fun d H' h0 h1 hu hb => ?_)); (case h0 => walk_at "ur"); (case h1 => walk_at "sd"); (case h2 => walk_at "sd"); (case h3 => walk_at "sd"))
    | ((with_reducible refine' call_law_bits ?h0 ?h1 ?h2 ?h3 (fun l H' h0 h1 hu hb => ?_)); (case h0 => walk_at "ur"); (case h1 => walk_at "sd"); (case h2 => walk_at "sd"); (case h3 => walk_at "sd"))
    | ((with_reducible refine' call_law_runs ?h0 (fun p H' hn he hp => ?_)); (case h0 => walk_at "sd"))
    | ((with_reducible refine' call_law_number_code ?h0 ?h1 (fun H' he => ?_)); (case h0 => walk_at "sd"); (case h1 => walk_at "sd"))
    | ((with_reducible refine' call_law_codes ?h0 ?h1 (fun p H' hn he hp => ?_)); (case h0 => walk_at "sd"); (case h1 => walk_at "sd"))
    | ((with_reducible refine' call_law_block ?h0 ?h1 (fun l H' h0 h1 h2 hu hb => ?_)); (case h0 => walk_at "ur"); (case h1 => walk_at "sd"))
    | fail "none")
  | ((with_reducible refine' zmethR_ ?h0 ?h1 ?_); (case h0 => walk_at "row"); (case h1 => exact fun _ _ _ _ _ => rfl))
  | ((with_reducible refine' ownR_ ?h0 ?_); (case h0 => walk_at "row"))
  | ((with_reducible refine' eqR_ ?h0 ?h1 ?_); (case h0 => walk_at "row"); (case h1 => walk_at "row"))
  | ((with_reducible refine' neR_ ?h0 ?h1 ?_); (case h0 => walk_at "row"); (case h1 => walk_at "row"))
  | ((with_reducible refine' isR_ ?h0 ?h1 ?h2 ?_); (case h0 => walk_at "row"); (case h1 => assumption); (case h2 => assumption))
  | ((with_reducible refine' sizeR_ ?h0 ?h1 ?h2 ?_); (case h0 => walk_at "row"); (case h1 => assumption); (case h2 => assumption))
  | fail "none")
local macro_rules | `(tactic| walk_at "t") => `(tactic| first
  | ((with_reducible refine' gdP ?_); first
    | ((with_reducible refine' cs_law_urn ?h0 ?h1 ?h2 ?h3 ?h4 (fun u H' s => ?_)); (case h0 => assumption); (case h1 => walk_at "sq"); (case h2 => walk_at "sd"); (case h3 => walk_at "sd"); (case h4 => walk_at "sd"))
    | ((with_reducible refine' cs_law_draw ?h0 ?h1 ?h2 ?h3 ?h4 (fun d H' h0 h1 s => ?_)); (case h0 => assumption); (case h1 => walk_at "pk"); (case h2 => walk_at "sd"); (case h3 => walk_at "sd"); (case h4 => walk_at "sd"))
    | ((with_reducible refine' cs_law_odd ?h0 ?h1 ?h2 (fun v d H' s => ?_)); (case h0 => assumption); (case h1 => walk_at "pk"); (case h2 => walk_at "sd"))
    | ((with_reducible refine' cs_law_bits ?h0 ?h1 ?h2 ?h3 ?h4 (fun l H' h0 h1 s => ?_)); (case h0 => assumption); (case h1 => walk_at "pk"); (case h2 => walk_at "sd"); (case h3 => walk_at "sd"); (case h4 => walk_at "sd"))
    | ((with_reducible refine' cs_law_number_code ?h0 ?h1 ?h2 (fun H' s => ?_)); (case h0 => assumption); (case h1 => walk_at "sd"); (case h2 => walk_at "sd"))
    | ((with_reducible refine' cs_law_codes ?h0 ?h1 ?h2 (fun p H' s => ?_)); (case h0 => assumption); (case h1 => walk_at "sd"); (case h2 => walk_at "sd"))
    | ((with_reducible refine' cs_law_block ?h0 ?h1 ?h2 (fun l H' h0 h1 h2 s => ?_)); (case h0 => assumption); (case h1 => walk_at "pk"); (case h2 => walk_at "sd"))
    | ((with_reducible refine' cs_law_goes_on ?h0 ?h1 (fun H' s => ?_)); (case h0 => assumption); (case h1 => walk_at "sd"))
    | ((with_reducible refine' cs_law_block_of ?h0 ?h1 ?h2 (fun H' s => ?_)); (case h0 => assumption); (case h1 => walk_at "sd"); (case h2 => assumption))
    | ((with_reducible refine' cs_law_spoilt_code ?h0 ?h1 ?h2 ?h3 ?h4 ?h5 (fun y H' hy sy s => ?_)); (case h0 => assumption); (case h1 => walk_at "pk"); (case h2 => walk_at "sd"); (case h3 => walk_at "sd"); (case h4 => walk_at "sd"); (case h5 => assumption))
    | fail "none")
  | ((with_reducible refine' zmethS_ ?h0 ?h1 ?h2 ?_); (case h0 => assumption); (case h1 => walk_at "pk"); (case h2 => exact fun _ _ _ _ _ => rfl))
  | ((with_reducible refine' ownS_ ?h0 ?h1 ?_); (case h0 => assumption); (case h1 => walk_at "pk"))
  | ((with_reducible refine' eqS_ ?h0 ?h1 ?h2 ?_); (case h0 => assumption); (case h1 => walk_at "pk"); (case h2 => walk_at "pk2"))
  | ((with_reducible refine' neqS_ ?h0 ?h1 ?h2 ?_); (case h0 => assumption); (case h1 => walk_at "pk"); (case h2 => walk_at "pk2"))
  | ((with_reducible refine' isS_ ?h0 ?h1 ?h2 ?h3 ?_); (case h0 => assumption); (case h1 => walk_at "pk"); (case h2 => assumption); (case h3 => assumption))
  | ((with_reducible refine' sizeS_ ?h0 ?h1 ?h2 ?h3 ?_); (case h0 => assumption); (case h1 => walk_at "pk"); (case h2 => assumption); (case h3 => assumption))
  | ((with_reducible refine' listT_ ?h0 (new_S ?n0 fun p H' s => ?_)); (case h0 => walk_at "sd"); (case n0 => with_reducible assumption))
  | ((with_reducible refine' told_S ?h0 ?h1 (fun H' s => ?_)); (case h0 => assumption); (case h1 => walk_at "pk"))
  | ((with_reducible refine' answer_ ?h0 (fun H' p s => ?_)); (case h0 => assumption))
  | fail "none")
local macro_rules | `(tactic| walk_at "a85c4f338") => `(tactic| ((with_reducible refine' seq_asg ?_)))
local macro_rules | `(tactic| walk_at "ad15d6c32") => `(tactic| ((with_reducible refine' c_ ?_)))
local macro_rules | `(tactic| walk_at "a3d76496c") => `(tactic| ((with_reducible refine' norm ?h0 ?_); (case h0 => (dsimp only [List.set_cons_zero, List.set_cons_succ] <;> exact rfl))))
local macro_rules | `(tactic| walk_at "ae44f4543") => `(tactic| ((with_reducible refine' if_ ?_)))
local macro_rules | `(tactic| walk_at "a668f72f2") => `(tactic| ((with_reducible refine' test_ ?_)))
local macro_rules | `(tactic| walk_at "a2c441c41") => `(tactic| ((with_reducible refine' op_ ?_)))
local macro_rules | `(tactic| walk_at "ad25b13d2") => `(tactic| ((with_reducible refine' var_ ?h0 ?_); (case h0 => exact rfl)))
local macro_rules | `(tactic| walk_at "a33f2f4b5") => `(tactic| ((with_reducible refine' cb_ ?_)))
local macro_rules | `(tactic| walk_at "ae1f83bb8") => `(tactic| ((with_reducible refine' cons_ ?_)))
local macro_rules | `(tactic| walk_at "afef05d44") => `(tactic| ((with_reducible refine' nil_ ?_)))
local macro_rules | `(tactic| walk_at "a1547b0ad") => `(tactic| ((with_reducible refine' lenSq ?h0 ?_); (case h0 => walk_at "sq")))
local macro_rules | `(tactic| walk_at "a3d0fbaf8") => `(tactic| ((with_reducible refine' ltI ?_)))
local macro_rules | `(tactic| walk_at "a8a699a1b") => `(tactic| ((with_reducible refine' zb_ ?_)))
local macro_rules | `(tactic| walk_at "a7f6d4dcc") => `(tactic| ((with_reducible refine' asg_ ?_)))
local macro_rules | `(tactic| walk_at "a69494a1c") => `(tactic| ((with_reducible refine' ixSq ?h0 ?h1 ?_); (case h0 => walk_at "sq"); (case h1 => walk_at "at")))
local macro_rules | `(tactic| walk_at "a28557e3a") => `(tactic| ((with_reducible refine' nx_ ?h0 ?_); (case h0 => (dsimp only <;> exact rfl))))
local macro_rules | `(tactic| walk_at "a3cf0dcf0") => `(tactic| ((with_reducible refine' next_ ?_)))
local macro_rules | `(tactic| walk_at "a2b8e5920") => `(tactic| ((with_reducible refine' abs_ ?_)))
local macro_rules | `(tactic| walk_at "af089cc0c") => `(tactic| ((with_reducible refine' powI ?h0 ?_); (case h0 => first | with_reducible assumption | exact pow_ok (by decide))))
local macro_rules | `(tactic| walk_at "ac39ddb8c") => `(tactic| ((with_reducible refine' ret_ ?_)))
local macro_rules | `(tactic| walk_at "afaa010ed") => `(tactic| ((with_reducible refine' lst_ ?_)))
local macro_rules | `(tactic| walk_at "a2b2fa54d") => `(tactic| ((with_reducible refine' modI ?h0 ?_); (case h0 => walk_at "sd")))
local macro_rules | `(tactic| walk_at "a7bf746b0") => `(tactic| ((with_reducible refine' mulI ?h0 ?_); (case h0 => first | exact mul_ok1 (by omega) (by omega) | exact mul_ok2 (by omega) (by omega) | with_reducible assumption)))
local macro_rules | `(tactic| walk_at "a470d4ce9") => `(tactic| ((with_reducible refine' addI ?_)))
local macro_rules | `(tactic| walk_at "a22972083") => `(tactic| ((with_reducible refine' zlst_ ?h0 (fun p H' hn he hp => ?_)); (case h0 => walk_at "sd")))
local macro_rules | `(tactic| walk_at "a8f7cfc14") => `(tactic| ((with_reducible refine' rt_ ?h0 ?_); (case h0 => (dsimp only <;> exact rfl))))
local macro_rules | `(tactic| walk_at "a8253931e") => `(tactic| ((with_reducible refine' seq_ ?_)))
local macro_rules | `(tactic| walk_at "a2251479c") => `(tactic| ((with_reducible refine' gtI ?_)))
local macro_rules | `(tactic| walk_at "ad0a676ba") => `(tactic| ((with_reducible refine' strZI_ ?h0 ?h1 ?_); (case h0 => walk_at "sd"); (case h1 => walk_at "sd")))
local macro_rules | `(tactic| walk_at "a4e0c8928") => `(tactic| ((with_reducible refine' addS ?h0 ?_); (case h0 => walk_at "sd")))
local macro_rules | `(tactic| walk_at "a9f846afb") => `(tactic| ((with_reducible refine' divI ?h0 ?h1 ?_); (case h0 => walk_at "sd"); (case h1 => walk_at "sd")))
local macro_rules | `(tactic| walk_at "a6ebb81e6") => `(tactic| ((with_reducible refine' lenS ?h0 ?_); (case h0 => walk_at "sd")))
local macro_rules | `(tactic| walk_at "a8c4e17e3") => `(tactic| ((with_reducible refine' subI ?_)))
local macro_rules | `(tactic| walk_at "a1d30e24a") => `(tactic| ((with_reducible refine' mulS ?h0 ?h1 ?h2 ?_); (case h0 => walk_at "sd"); (case h1 => walk_at "sd"); (case h2 => walk_at "sd")))
local macro_rules | `(tactic| walk_at "a1fccfa88") => `(tactic| ((with_reducible refine' seq_for ?_)))
local macro_rules | `(tactic| walk_at "a5c94feb2") => `(tactic| ((with_reducible refine' ient_ ?_)))
local macro_rules | `(tactic| walk_at "a113e001c") => `(tactic| ((with_reducible refine' zent_ ?_)))
local macro_rules | `(tactic| walk_at "a641c25ec") => `(tactic| ((with_reducible refine' and_ ?_)))
local macro_rules | `(tactic| walk_at "a4657a1b3") => `(tactic| ((with_reducible refine' ixS ?h0 ?h1 ?_); (case h0 => walk_at "sd"); (case h1 => walk_at "at")))
local macro_rules | `(tactic| walk_at "ae5260597") => `(tactic| ((with_reducible refine' eqS ?_)))
local macro_rules | `(tactic| walk_at "aee1b00cb") => `(tactic| ((with_reducible refine' asgG_ ?_)))
local macro_rules | `(tactic| walk_at "af5a97b89") => `(tactic| ((with_reducible refine' un_ ?_)))
local macro_rules | `(tactic| walk_at "a250d16b4") => `(tactic| ((with_reducible refine' negI ?_)))
local macro_rules | `(tactic| walk_at "a5c5685b7") => `(tactic| ((with_reducible refine' ixL ?h0 ?h1 ?_); (case h0 => walk_at "lk"); (case h1 => walk_at "at")))
local macro_rules | `(tactic| walk_at "a114ee3de") => `(tactic| ((with_reducible refine' gsub_ ?_)))
local macro_rules | `(tactic| walk_at "a9857b6e3") => `(tactic| ((with_reducible refine' setL_ ?h0 ?h1 (fun H' hp hb => ?_)); (case h0 => walk_at "lk"); (case h1 => first | rfl | assumption)))
local macro_rules | `(tactic| walk_at "a5ba7d5f5") => `(tactic| ((with_reducible refine' drop_ ?_)))
local macro_rules | `(tactic| walk_at "ad1b438b8") => `(tactic| ((with_reducible refine' bm_ ?_)))
local macro_rules | `(tactic| walk_at "a39154dd1") => `(tactic| ((with_reducible refine' zbmL_ ?h0 ?_); (case h0 => walk_at "lk")))
local macro_rules | `(tactic| walk_at "a320e47f0") => `(tactic| ((with_reducible refine' append_ ?h0 ?h1 (fun H' hp hb => ?_)); (case h0 => walk_at "lk"); (case h1 => walk_at "sd")))
local macro_rules | `(tactic| walk_at "a7b130abd") => `(tactic| ((with_reducible refine' zif_f ?_)))
local macro_rules | `(tactic| walk_at "a2eb9ad30") => `(tactic| ((with_reducible refine' lc_ ?_)))
local macro_rules | `(tactic| walk_at "a27ff4d3c") => `(tactic| ((with_reducible refine' ilist_ ?_)))
local macro_rules | `(tactic| walk_at "acdbb3963") => `(tactic| ((with_reducible refine' c1_ ?_)))
local macro_rules | `(tactic| walk_at "a51176d3b") => `(tactic| ((with_reducible refine' call_law_runs ?h0 (fun p H' hn he hp => ?_)); (case h0 => walk_at "sd")))
local macro_rules | `(tactic| walk_at "a4e297517") => `(tactic| ((with_reducible refine' zlist_ ?h0 ?_); (case h0 => walk_at "lk")))
local macro_rules | `(tactic| walk_at "a99b2fe25") => `(tactic| ((with_reducible refine' call_law_number_code ?h0 ?h1 (fun H' he => ?_)); (case h0 => walk_at "sd"); (case h1 => walk_at "sd")))
local macro_rules | `(tactic| walk_at "ab6f4d09a") => `(tactic| ((with_reducible refine' tup_ ?_)))
local macro_rules | `(tactic| walk_at "af6af6ffb") => `(tactic| ((with_reducible refine' m1_ ?_)))
local macro_rules | `(tactic| walk_at "a90efc992") => `(tactic| ((with_reducible refine' zm1_ ?_)))
local macro_rules | `(tactic| walk_at "a0139b3e0") => `(tactic| ((with_reducible refine' ztup_ ?h0 (fun p H' hn he hp => ?_)); (case h0 => walk_at "sd")))
local macro_rules | `(tactic| walk_at "a4584bbba") => `(tactic| ((with_reducible refine' seq_if ?_)))
local macro_rules | `(tactic| walk_at "a43bf46d2") => `(tactic| ((with_reducible refine' seq_asgG ?_)))
local macro_rules | `(tactic| walk_at "a2cdecdaf") => `(tactic| ((with_reducible refine' ixU ?h0 ?h1 ?_); (case h0 => walk_at "lk"); (case h1 => walk_at "at")))
local macro_rules | `(tactic| walk_at "a36af51d3") => `(tactic| ((with_reducible refine' call_law_draw ?h0 ?h1 ?h2 ?h3 (fun d H' h0 h1 hu hb => ?_)); (case h0 => walk_at "ur"); (case h1 => walk_at "sd"); (case h2 => walk_at "sd"); (case h3 => walk_at "sd")))
local macro_rules | `(tactic| walk_at "a91c550d3") => `(tactic| ((with_reducible refine' seq_par ?_)))
local macro_rules | `(tactic| walk_at "a843fc401") => `(tactic| ((with_reducible refine' zpar_ ?_)))
local macro_rules | `(tactic| walk_at "ab84a1bc3") => `(tactic| ((with_reducible refine' eqI ?_)))
local macro_rules | `(tactic| walk_at "a1e0e6469") => `(tactic| ((with_reducible refine' sl_ ?_)))
local macro_rules | `(tactic| walk_at "a67128e29") => `(tactic| ((with_reducible refine' nopart_ ?_)))
local macro_rules | `(tactic| walk_at "a0ebae3b6") => `(tactic| ((with_reducible refine' part_ ?_)))
local macro_rules | `(tactic| walk_at "a6a11b937") => `(tactic| ((with_reducible refine' zpart_ ?_)))
local macro_rules | `(tactic| walk_at "a55f8cc73") => `(tactic| ((with_reducible refine' slS ?h0 ?_); (case h0 => walk_at "sd")))
local macro_rules | `(tactic| walk_at "a1d9c2e1b") => `(tactic| ((with_reducible refine' ztup_ ?h0 (new_S ?n0 fun p H' s => ?_)); (case h0 => walk_at "sd"); (case n0 => with_reducible assumption)))
local macro_rules | `(tactic| walk_at "a5a35570c") => `(tactic| ((with_reducible refine' zlst_ ?h0 (new_S ?n0 fun p H' s => ?_)); (case h0 => walk_at "sd"); (case n0 => with_reducible assumption)))
local macro_rules | `(tactic| walk_at "abca2a96c") => `(tactic| ((with_reducible refine' cs_law_draw ?h0 ?h1 ?h2 ?h3 ?h4 (fun d H' h0 h1 s => ?_)); (case h0 => assumption); (case h1 => walk_at "pk"); (case h2 => walk_at "sd"); (case h3 => walk_at "sd"); (case h4 => walk_at "sd")))
local macro_rules | `(tactic| walk_at "a7152c8b5") => `(tactic| ((with_reducible refine' orT_ ?_)))
local macro_rules | `(tactic| walk_at "a4817c14a") => `(tactic| ((with_reducible refine' call_law_bits ?h0 ?h1 ?h2 ?h3 (fun l H' h0 h1 hu hb => ?_)); (case h0 => walk_at "ur"); (case h1 => walk_at "sd"); (case h2 => walk_at "sd"); (case h3 => walk_at "sd")))
local macro_rules | `(tactic| walk_at "abe7a5488") => `(tactic| ((with_reducible refine' seq_par3 ?_)))
local macro_rules | `(tactic| walk_at "a75238d54") => `(tactic| ((with_reducible refine' zpar3_ ?_)))
local macro_rules | `(tactic| walk_at "a1cd4c4d9") => `(tactic| ((with_reducible refine' addL ?h0 ?h1 ?h2 (new_S ?n0 fun p H' s => ?_)); (case h0 => walk_at "lk"); (case h1 => walk_at "lk"); (case h2 => walk_at "sd"); (case n0 => with_reducible assumption)))
local macro_rules | `(tactic| walk_at "a2c422e4c") => `(tactic| ((with_reducible refine' or_ ?_)))
local macro_rules | `(tactic| walk_at "ad16059ae") => `(tactic| ((with_reducible refine' zor_t ?_)))
local macro_rules | `(tactic| walk_at "a259846d4") => `(tactic| ((with_reducible refine' zif_t ?_)))
local macro_rules | `(tactic| walk_at "a603f4d20") => `(tactic| ((with_reducible refine' eqSS ?_)))
local macro_rules | `(tactic| walk_at "a66292a6d") => `(tactic| ((with_reducible refine' intB_ ?_)))
local macro_rules | `(tactic| walk_at "a018c9fb9") => `(tactic| ((with_reducible refine' zor_f ?_)))
local macro_rules | `(tactic| walk_at "a35e1d11b") => `(tactic| ((with_reducible refine' not_ ?_)))
local macro_rules | `(tactic| walk_at "a5ca36a29") => `(tactic| ((with_reducible refine' tb_ ?_)))
local macro_rules | `(tactic| walk_at "aacce3769") => `(tactic| ((with_reducible refine' istr_ ?_)))
local macro_rules | `(tactic| walk_at "a04585a94") => `(tactic| ((with_reducible refine' zstr_ ?_)))
local macro_rules | `(tactic| walk_at "a893a35dc") => `(tactic| ((with_reducible refine' inS ?_)))
local macro_rules | `(tactic| walk_at "a539a4fa3") => `(tactic| ((with_reducible refine' zif_nT ?_)))
local macro_rules | `(tactic| walk_at "a1fcbcf3e") => `(tactic| ((with_reducible refine' zif_df ?h0 ?_); (case h0 => walk_at "sd")))
local macro_rules | `(tactic| walk_at "afbecc87a") => `(tactic| ((with_reducible refine' gtup_ ?h0 ?h1 ?_); (case h0 => walk_at "lk"); (case h1 => rfl)))
local macro_rules | `(tactic| walk_at "a54305b80") => `(tactic| ((with_reducible refine' gcons_ ?_)))
local macro_rules | `(tactic| walk_at "a3beb7cd4") => `(tactic| ((with_reducible refine' gname_ ?_)))
local macro_rules | `(tactic| walk_at "abc6e375f") => `(tactic| ((with_reducible refine' gnil_ ?_)))
local macro_rules | `(tactic| walk_at "a53594ee3") => `(tactic| ((with_reducible refine' lstrip0_ ?h0 ?_); (case h0 => walk_at "sd")))
local macro_rules | `(tactic| walk_at "a77250c20") => `(tactic| ((with_reducible refine' intBit_ ?h0 ?h1 ?h2 ?_); (case h0 => assumption); (case h1 => assumption); (case h2 => walk_at "sd")))
local macro_rules | `(tactic| walk_at "a1699f3be") => `(tactic| ((with_reducible refine' zif_dt ?h0 ?_); (case h0 => walk_at "sd")))
local macro_rules | `(tactic| walk_at "a64b801b7") => `(tactic| ((with_reducible refine' zif_nF ?_)))
local macro_rules | `(tactic| walk_at "a59380daa") => `(tactic| ((with_reducible refine' intS_ ?h0 ?_); (case h0 => assumption)))
local macro_rules | `(tactic| walk_at "a079f5f75") => `(tactic| ((with_reducible refine' par_ ?_)))
local macro_rules | `(tactic| walk_at "af08ba47b") => `(tactic| ((with_reducible refine' isSS_ ?_)))
local macro_rules | `(tactic| walk_at "a667a4238") => `(tactic| ((with_reducible refine' irng1_ ?_)))
local macro_rules | `(tactic| walk_at "a02753dc7") => `(tactic| ((with_reducible refine' zrng1_ ?h0 ?h1 ?_); (case h0 => walk_at "sd"); (case h1 => walk_at "sd")))
local macro_rules | `(tactic| walk_at "a816bcb1a") => `(tactic| ((with_reducible refine' cs_law_goes_on ?h0 ?h1 (fun H' s => ?_)); (case h0 => assumption); (case h1 => walk_at "sd")))
local macro_rules | `(tactic| walk_at "a0631d19f") => `(tactic| ((with_reducible refine' neI ?_)))
local macro_rules | `(tactic| walk_at "a94375942") => `(tactic| ((with_reducible refine' cs_law_block_of ?h0 ?h1 ?h2 (fun H' s => ?_)); (case h0 => assumption); (case h1 => walk_at "sd"); (case h2 => assumption)))
local macro_rules | `(tactic| walk_at "a3c7ced5e") => `(tactic| ((with_reducible refine' isPr_ ?h0 ?h1 ?_); (case h0 => assumption); (case h1 => exact Bears.up (by assumption) (ex_S (by with_reducible assumption) (by walk_at "pk")))))
local macro_rules | `(tactic| walk_at "aa50e26fe") => `(tactic| ((with_reducible refine' isPt_ ?h0 ?h1 ?_); (case h0 => assumption); (case h1 => exact Bears.up (by assumption) (ex_S (by with_reducible assumption) (by walk_at "pk")))))
local macro_rules | `(tactic| walk_at "af96afe5f") => `(tactic| ((with_reducible refine' zw_ ?h0 ?_); (case h0 => exact rfl)))
local macro_rules | `(tactic| walk_at "a4d105e21") => `(tactic| ((with_reducible refine' truth_ ?_)))
local macro_rules | `(tactic| walk_at "aa4050c9e") => `(tactic| ((with_reducible refine' ztru_b ?_)))
local macro_rules | `(tactic| walk_at "a594ff5a4") => `(tactic| ((with_reducible refine' put1_S ?h0 ?h1 ?h2 ?h3 (fun H' s => ?_)); (case h0 => assumption); (case h1 => walk_at "rp"); (case h2 => first | (dsimp only [List.nil_append, List.cons_append] <;> exact rfl) | exact rfl); (case h3 => walk_at "sd")))
local macro_rules | `(tactic| walk_at "a77f93157") => `(tactic| ((with_reducible refine' lenL ?h0 ?_); (case h0 => walk_at "lk")))
local macro_rules | `(tactic| walk_at "a29d25caa") => `(tactic| ((with_reducible refine' seq_drop ?_)))
local macro_rules | `(tactic| walk_at "a1994a4b5") => `(tactic| ((with_reducible refine' errI_ ?_)))
local macro_rules | `(tactic| walk_at "a0205dc8a") => `(tactic| ((with_reducible refine' zerrI_ ?h0 ?h1 ?h2 ?_); (case h0 => assumption); (case h1 => walk_at "lk"); (case h2 => walk_at "sd")))
local macro_rules | `(tactic| walk_at "a02880656") => `(tactic| ((with_reducible refine' errS_ ?_)))
local macro_rules | `(tactic| walk_at "ac74702f2") => `(tactic| ((with_reducible refine' zerrS_ ?h0 ?h1 ?h2 (fun dx nd ne => ?_)); (case h0 => assumption); (case h1 => assumption); (case h2 => walk_at "lk")))
local macro_rules | `(tactic| walk_at "a33ef3711") => `(tactic| ((with_reducible refine' ientK_ ?_)))
local macro_rules | `(tactic| walk_at "a26bb9237") => `(tactic| ((with_reducible refine' zenK_ ?h0 ?h1 ?_); (case h0 => walk_at "sd"); (case h1 => walk_at "sd")))
local macro_rules | `(tactic| walk_at "a9fc98b3a") => `(tactic| ((with_reducible refine' niS ?_)))
local macro_rules | `(tactic| walk_at "a77f3ebce") => `(tactic| ((with_reducible refine' zor_kt ?h0 ?_); (case h0 => walk_at "sdr")))
local macro_rules | `(tactic| walk_at "a56bcd408") => `(tactic| ((with_reducible refine' raiseE_ ?_)))
local macro_rules | `(tactic| walk_at "a76940847") => `(tactic| ((with_reducible refine' zerr_ (fun d H' nd he hd => ?_))))
local macro_rules | `(tactic| walk_at "a3dfc9c4b") => `(tactic| ((with_reducible refine' zor_kf ?h0 ?_); (case h0 => walk_at "sdr")))
local macro_rules | `(tactic| walk_at "af2623f90") => `(tactic| ((with_reducible refine' leI ?_)))
local macro_rules | `(tactic| walk_at "a1fdb1a90") => `(tactic| ((with_reducible refine' seq_aug ?h0 ?_); (case h0 => exact rfl)))
local macro_rules | `(tactic| walk_at "a70b9c554") => `(tactic| ((with_reducible refine' imulI ?h0 ?h1 ?_); (case h0 => walk_at "sd"); (case h1 => walk_at "sd")))
local macro_rules | `(tactic| walk_at "a2b221546") => `(tactic| ((with_reducible refine' aug_ ?h0 ?_); (case h0 => exact rfl)))
local macro_rules | `(tactic| walk_at "a66a76921") => `(tactic| ((with_reducible refine' iaddI ?_)))
local macro_rules | `(tactic| walk_at "a5e4d02d8") => `(tactic| ((with_reducible refine' neS ?_)))
local macro_rules | `(tactic| walk_at "a61eea2e0") => `(tactic| ((with_reducible refine' zif_nf ?h0 ?_); (case h0 => walk_at "sd")))
local macro_rules | `(tactic| walk_at "a503841f1") => `(tactic| ((with_reducible refine' idivI ?h0 ?h1 ?_); (case h0 => walk_at "sd"); (case h1 => walk_at "sd")))
local macro_rules | `(tactic| walk_at "a0061cb3b") => `(tactic| ((with_reducible refine' zif_nt ?h0 ?_); (case h0 => walk_at "sd")))
local macro_rules | `(tactic| walk_at "a3f49daff") => `(tactic| ((with_reducible refine' ifE_ ?_)))
local macro_rules | `(tactic| walk_at "a8f3de42f") => `(tactic| ((with_reducible refine' iaddS ?h0 ?_); (case h0 => walk_at "sd")))
local macro_rules | `(tactic| walk_at "a46806286") => `(tactic| ((with_reducible refine' call_other_bit ?h0 ?_); (case h0 => assumption)))
local macro_rules | `(tactic| walk_at "a35c9178e") => `(tactic| ((with_reducible refine' tyes_ ?_)))
local macro_rules | `(tactic| walk_at "a97db19fa") => `(tactic| ((with_reducible refine' zput_t ?_)))
local macro_rules | `(tactic| walk_at "ab9db1f49") => `(tactic| ((with_reducible refine' told_S ?h0 ?h1 (fun H' s => ?_)); (case h0 => assumption); (case h1 => walk_at "pk")))
local macro_rules | `(tactic| walk_at "aa83ca865") => `(tactic| ((with_reducible refine' answer_ ?h0 (fun H' p s => ?_)); (case h0 => assumption)))
local macro_rules | `(tactic| walk_at "a4c4c815b") => `(tactic| ((with_reducible refine' andV_ ?_)))
local macro_rules | `(tactic| walk_at "a5012d8eb") => `(tactic| ((with_reducible refine' zandv_t ?_)))
local macro_rules | `(tactic| walk_at "af540029c") => `(tactic| ((with_reducible refine' min2_ ?_)))
local macro_rules | `(tactic| walk_at "a85357d03") => `(tactic| ((with_reducible refine' max2_ ?_)))
local macro_rules | `(tactic| walk_at "a174a02dd") => `(tactic| ((with_reducible refine' cs_law_urn ?h0 ?h1 ?h2 ?h3 ?h4 (fun u H' s => ?_)); (case h0 => assumption); (case h1 => walk_at "sq"); (case h2 => walk_at "sd"); (case h3 => walk_at "sd"); (case h4 => walk_at "sd")))
local macro_rules | `(tactic| walk_at "a6982c084") => `(tactic| ((with_reducible refine' cs_law_odd ?h0 ?h1 ?h2 (fun v d H' s => ?_)); (case h0 => assumption); (case h1 => walk_at "pk"); (case h2 => walk_at "sd")))
local macro_rules | `(tactic| walk_at "ae0ce04ac") => `(tactic| ((with_reducible refine' itup_ ?_)))
local macro_rules | `(tactic| walk_at "a984ef5dd") => `(tactic| ((with_reducible refine' cs_law_block ?h0 ?h1 ?h2 (fun l H' h0 h1 h2 s => ?_)); (case h0 => assumption); (case h1 => walk_at "pk"); (case h2 => walk_at "sd")))
local macro_rules | `(tactic| walk_at "a5e83b759") => `(tactic| ((with_reducible refine' cs_law_codes ?h0 ?h1 ?h2 (fun p H' s => ?_)); (case h0 => assumption); (case h1 => walk_at "sd"); (case h2 => walk_at "sd")))
local macro_rules | `(tactic| walk_at "a6d3a6bc4") => `(tactic| ((with_reducible refine' ztupi_ ?h0 ?_); (case h0 => walk_at "lk")))
local macro_rules | `(tactic| walk_at "a8a574edc") => `(tactic| ((with_reducible refine' cs_law_spoilt_code ?h0 ?h1 ?h2 ?h3 ?h4 ?h5 (fun y H' hy sy s => ?_)); (case h0 => assumption); (case h1 => walk_at "pk"); (case h2 => walk_at "sd"); (case h3 => walk_at "sd"); (case h4 => walk_at "sd"); (case h5 => assumption)))
local macro_rules | `(tactic| walk_at "ac0de799a") => `(tactic| ((with_reducible refine' append_ ?h0 ?h1 (mut_S ?m0 ?m1 ?m2 fun H' s => ?_)); (case h0 => walk_at "lk"); (case h1 => walk_at "sd"); (case m0 => with_reducible assumption); (case m1 => walk_at "rp"); (case m2 => rfl)))
local macro_rules | `(tactic| walk_at "ab1715b67") => `(tactic| ((with_reducible refine' cs_law_bits ?h0 ?h1 ?h2 ?h3 ?h4 (fun l H' h0 h1 s => ?_)); (case h0 => assumption); (case h1 => walk_at "pk"); (case h2 => walk_at "sd"); (case h3 => walk_at "sd"); (case h4 => walk_at "sd")))
local macro_rules | `(tactic| walk_at "a1409150d") => `(tactic| ((with_reducible refine' zput_dt ?h0 ?_); (case h0 => walk_at "sdr")))
local macro_rules | `(tactic| walk_at "a63a17861") => `(tactic| ((with_reducible refine' cs_law_number_code ?h0 ?h1 ?h2 (fun H' s => ?_)); (case h0 => assumption); (case h1 => walk_at "sd"); (case h2 => walk_at "sd")))
local macro_rules | `(tactic| walk_at "ab10f9a01") => `(tactic| ((with_reducible refine' zput_df ?h0 ?_); (case h0 => walk_at "sdr")))
local macro_rules | `(tactic| walk_at "ae4e945db") => `(tactic| ((with_reducible refine' for_ ?_)))
local macro_rules | `(tactic| walk_at "ac32f4927") => `(tactic| ((with_reducible refine' slL ?h0 (new_S ?n0 fun p H' s => ?_)); (case h0 => walk_at "lk"); (case n0 => with_reducible assumption)))
section
variable {P : Program} {w : World} {K : PySem.W.Frag} {mg : Str → Option Value} {base : Heap} {C_CountError C_NoCode C_NoBits C_NoTree C_NoPage C_NoWord C_NoTurned C_NoStretch C_NoRow C_NoPlace C_NoNode C_NoLetter C_NoDeed C_Full C_Torn C_Busy : Addr}
set_option maxHeartbeats 4000000 in
theorem ok_law_urn {f : Addr} {fd : FuncData} {dV kV : Value} (g : G mg)
    (F : Txt K "_law_urn" "_law_urn" (defArgs st_law_urn) (defBody st_law_urn) (defScope st_law_urn) dV kV f fd) :
    FnG P w K mg base 1 f fd ["_law_script", "_law_spot"] (sp_law_urn K) := by
  refine z_fn F sc_law_urn (fun vs H Q E h => by
    obtain ⟨a, ns, i, rfl, h1, h2, h3, h4, k⟩ := h
    rfl) (fun cd A outer s H vs Q E hr ng h => ?_)
  obtain ⟨a, ns, i, rfl, h1, h2, h3, h4, k⟩ := h
  refine ⟨_, [_, _, none, none], rfl, (pss_cons (ps_set (i := 2) sc_law_urn.nd rfl (Or.inl rfl) pe_int)
      (Evl.pss_cut (ps_if (pt_cmpR z_lt (pv 1) (pe_callB (k_len (K := K)) (by rfl) g.b_len bt_len (pa_cons (pv 0) pa_nil)) (nomark _)) (pss_one (ps_set (i := 2) sc_law_urn.nd rfl (Or.inl rfl) (pe_ix (k_ix (K := K)) (pv 0) (pv 1) (fun _ _ => rfl)))) pss_nil)
      (pss_cons (ps_set (i := 3) sc_law_urn.nd rfl (Or.inl rfl) (pe_callB z_abs (by rfl) g.b_abs bt_abs (pa_cons (pv 2) pa_nil)))
      (Evl.pss_cut (ps_if (pt_cmpR z_lt (pv 3) (pe_op z_pow pe_int pe_int) (nomark _)) (pss_one (ps_set (i := 3) sc_law_urn.nd rfl (Or.inl rfl) pe_int)) pss_nil)
      (pss_one (ps_ret (pe_lst (pa_cons (pv 3) (pa_cons (pe_op (k_add (K := K)) (pe_op (k_add (K := K)) (pe_op (k_add (K := K)) (pe_op z_mod (pv 2) pe_int) (pe_op z_mul (pe_op z_mul pe_int (pv 1)) (pv 1))) (pe_op z_mul pe_int (pv 1))) pe_int) (pa_cons pe_int pa_nil)))))))))), ?_⟩
  have hmul : 97 * i * i < 1000000 ∧ 0 ≤ 97 * i * i := by
    have h5 : i * i ≤ 63 * 63 := Int.mul_le_mul (by omega) (by omega) h3 (by omega)
    have h6 : 0 ≤ i * i := Int.mul_nonneg h3 h3
    have e : 97 * i * i = 97 * (i * i) := Int.mul_assoc _ _ _
    omega
  (walk_at "a85c4f338"; walk_at "ad15d6c32"; walk_at "a3d76496c")
  refine cut_ (fun σ H' => ∃ c : Int, σ = [some (.ref a), some (.int i), some (.int c), none] ∧ H' = H) ?_ ?_
  · (walk_at "ae44f4543"; walk_at "a668f72f2"; walk_at "a2c441c41"; walk_at "ad25b13d2"; walk_at "a33f2f4b5"; walk_at "ae1f83bb8"; walk_at "ad25b13d2"; walk_at "afef05d44"; walk_at "a1547b0ad"; walk_at "a3d0fbaf8"; walk_at "a8a699a1b")
    rw [List.length_map]
    refine zif_d (fun hq => ?_) (fun hq => ?_)
    · have ha : atI (ns.map V.int) i = some (V.int (ns.getD i.toNat 0)) := by
        have e : i = ((i.toNat : Nat) : Int) := by omega
        rw [e]
        refine atI_nat ?_
        rw [List.getElem?_map, List.getD_eq_getElem?_getD, Int.toNat_natCast, List.getElem?_eq_getElem (by omega)]
        rfl
      (walk_at "a7f6d4dcc"; walk_at "a2c441c41"; walk_at "ad25b13d2"; walk_at "ad25b13d2"; walk_at "a69494a1c"; walk_at "a3d76496c"; walk_at "a28557e3a")
      exact ⟨_, rfl, rfl⟩
    · (walk_at "a3cf0dcf0"; walk_at "a28557e3a")
      exact ⟨_, rfl, rfl⟩
  · rintro σ H' ⟨c, rfl, rfl⟩
    have hc1 : 0 ≤ c % 1000000000000000003 := Int.emod_nonneg _ (by omega)
    have hc2 : c % 1000000000000000003 < 1000000000000000003 := Int.emod_lt_of_pos _ (by omega)
    have hg : (0 : Int) ≤ (if c < 0 then -c else c) := by split <;> omega
    (walk_at "a85c4f338"; walk_at "a33f2f4b5"; walk_at "ae1f83bb8"; walk_at "ad25b13d2"; walk_at "afef05d44"; walk_at "a2b8e5920"; walk_at "a3d76496c")
    refine cut_ (fun σ H'' => ∃ g : Int, σ = [some (.ref a), some (.int i), some (.int c), some (.int g)] ∧ 0 ≤ g ∧ H'' = H') ?_ ?_
    · (walk_at "ae44f4543"; walk_at "a668f72f2"; walk_at "a2c441c41"; walk_at "ad25b13d2"; walk_at "a2c441c41"; walk_at "ad15d6c32"; walk_at "ad15d6c32"; walk_at "af089cc0c"; walk_at "a3d0fbaf8"; walk_at "a8a699a1b")
      refine zif_d (fun hq => ?_) (fun hq => ?_)
      · (walk_at "a7f6d4dcc"; walk_at "ad15d6c32"; walk_at "a3d76496c"; walk_at "a28557e3a")
        exact ⟨0, rfl, by omega, rfl⟩
      · (walk_at "a3cf0dcf0"; walk_at "a28557e3a")
        exact ⟨_, rfl, hg, rfl⟩
    · rintro σ H'' ⟨g1, rfl, hg1, rfl⟩
      (walk_at "ac39ddb8c"; walk_at "afaa010ed"; walk_at "ae1f83bb8"; walk_at "ad25b13d2"; walk_at "ae1f83bb8"; walk_at "a2c441c41"; walk_at "a2c441c41"; walk_at "a2c441c41"; walk_at "a2c441c41"; walk_at "ad25b13d2"; walk_at "ad15d6c32"; walk_at "a2b2fa54d"; walk_at "a2c441c41"; walk_at "a2c441c41"; walk_at "ad15d6c32"; walk_at "ad25b13d2"; walk_at "a7bf746b0"; walk_at "ad25b13d2"; walk_at "a7bf746b0"; walk_at "a470d4ce9"; walk_at "a2c441c41"; walk_at "ad15d6c32"; walk_at "ad25b13d2"; walk_at "a7bf746b0"; walk_at "a470d4ce9"; walk_at "ad15d6c32"; walk_at "a470d4ce9"; walk_at "ae1f83bb8"; walk_at "ad15d6c32"; walk_at "afef05d44"; walk_at "a22972083"; walk_at "a8f7cfc14")
      rename_i p H1 hn he hp
      exact k _ _ hn he ⟨_, _, _, hp, by omega, by omega, by omega, by omega, by omega⟩
end
section
variable {P : Program} {w : World} {K : PySem.W.Frag} {mg : Str → Option Value} {base : Heap} {C_CountError C_NoCode C_NoBits C_NoTree C_NoPage C_NoWord C_NoTurned C_NoStretch C_NoRow C_NoPlace C_NoNode C_NoLetter C_NoDeed C_Full C_Torn C_Busy : Addr}
set_option maxHeartbeats 4000000 in
theorem ok_law_number_code {f : Addr} {fd : FuncData} {dV kV : Value} (g : G mg)
    (F : Txt K "_law_number_code" "_law_number_code" (defArgs st_law_number_code) (defBody st_law_number_code) (defScope st_law_number_code) dV kV f fd) :
    FnG P w K mg base 1 f fd ["_law_number"] (sp_law_number_code) := by
  refine z_fn F sc_law_number_code (fun vs H Q E h => by
    obtain ⟨i, rfl, h1, h2, k⟩ := h
    rfl) (fun cd A outer s H vs Q E hr ng h => ?_)
  obtain ⟨i, rfl, h1, h2, k⟩ := h
  refine ⟨_, [_, none], rfl, (pss_cons (ps_set (i := 1) sc_law_number_code.nd rfl (Or.inl rfl) (z_str lit_10))
      (pss_cons (ps_while (passes_of rfl) (pt_cmpR z_gt (pv 0) pe_int (nomark _)) (pss_cons (ps_set (i := 1) sc_law_number_code.nd rfl (Or.inl rfl) (pe_op (k_add (K := K)) (pe_callTy z_strZ (by rfl) g.b_str bt_str (pa_cons (pe_op z_mod (pv 0) pe_int) pa_nil)) (pv 1)))
      (pss_one (ps_set (i := 0) sc_law_number_code.nd rfl (Or.inl rfl) (pe_op z_fdiv (pv 0) pe_int)))))
      (pss_one (ps_ret (pe_op (k_add (K := K)) (pe_op z_mul (z_str lit_12) (pe_op z_sub (pe_callB (k_len (K := K)) (by rfl) g.b_len bt_len (pa_cons (pv 1) pa_nil)) pe_int)) (pv 1)))))), ?_⟩
  (walk_at "a85c4f338"; walk_at "ad15d6c32"; walk_at "a3d76496c"; walk_at "a8253931e")
  refine seq_while (fun n σ H' => ∃ (t : List Nat), σ = [some (.int (n : Int)), some (T t)] ∧ figs i.toNat = figs n ++ t ∧ n < 1048576 ∧ Ex H H') i.toNat ⟨[], by rw [Int.toNat_of_nonneg (by omega)], by simp, by omega, Ex.refl H⟩ ?_
  rintro n σ H1 ⟨t, rfl, e, hn, ex⟩
  have hl : t.length ≤ 20 := by
    have := figs_len (k := 20) (n := i.toNat) (by omega)
    rw [e, List.length_append] at this
    omega
  (walk_at "a668f72f2"; walk_at "a2c441c41"; walk_at "ad25b13d2"; walk_at "ad15d6c32"; walk_at "a2251479c"; walk_at "a8a699a1b")
  refine zwh_d (fun hp => ?_) (fun hp => ?_)
  · have ha : intL ((n : Int) % 2) = [48 + n % 2] := by
      rcases Nat.mod_two_eq_zero_or_one n with z | z
      · have : ((n : Int) % 2) = 0 := by omega
        rw [this, z]; decide +kernel
      · have : ((n : Int) % 2) = 1 := by omega
        rw [this, z]; decide +kernel
    have hl2 : (intL ((n : Int) % 2)).length = 1 := by rw [ha]; rfl
    (walk_at "a85c4f338"; walk_at "a2c441c41"; walk_at "a33f2f4b5"; walk_at "ae1f83bb8"; walk_at "a2c441c41"; walk_at "ad25b13d2"; walk_at "ad15d6c32"; walk_at "a2b2fa54d"; walk_at "afef05d44"; walk_at "ad0a676ba"; walk_at "ad25b13d2"; walk_at "a4e0c8928"; walk_at "a3d76496c"; walk_at "a7f6d4dcc"; walk_at "a2c441c41"; walk_at "ad25b13d2"; walk_at "ad15d6c32"; walk_at "a9f846afb"; walk_at "a3d76496c"; walk_at "a28557e3a")
    refine less_ (n / 2) (by omega) ⟨[48 + n % 2] ++ t, by rw [ha]; rfl, ?_, by omega, ex⟩
    rw [e, figs_step (by omega : 0 < n), List.append_assoc]
  · have z : n = 0 := by omega
    subst z
    rw [figs_zero, List.nil_append] at e
    have hl := figs_len (k := 20) (n := i.toNat) (by omega)
    have hp := figs_pos (n := i.toNat) (by omega)
    subst e
    (walk_at "ac39ddb8c"; walk_at "a2c441c41"; walk_at "a2c441c41"; walk_at "ad15d6c32"; walk_at "a2c441c41"; walk_at "a33f2f4b5"; walk_at "ae1f83bb8"; walk_at "ad25b13d2"; walk_at "afef05d44"; walk_at "a6ebb81e6"; walk_at "ad15d6c32"; walk_at "a8c4e17e3"; walk_at "a1d30e24a"; walk_at "ad25b13d2"; walk_at "a4e0c8928"; walk_at "a8f7cfc14")
    have e2 : (((figs i.toNat).length : Nat) : Int) - 1 = (((figs i.toNat).length - 1 : Nat) : Int) := by omega
    rw [e2, Int.toNat_natCast]
    exact k _ ex
end
section
variable {P : Program} {w : World} {K : PySem.W.Frag} {mg : Str → Option Value} {base : Heap} {C_CountError C_NoCode C_NoBits C_NoTree C_NoPage C_NoWord C_NoTurned C_NoStretch C_NoRow C_NoPlace C_NoNode C_NoLetter C_NoDeed C_Full C_Torn C_Busy : Addr}
set_option maxHeartbeats 4000000 in
theorem ok_law_runs {f : Addr} {fd : FuncData} {dV kV : Value} (g : G mg)
    (F : Txt K "_law_runs" "_law_runs" (defArgs st_law_runs) (defBody st_law_runs) (defScope st_law_runs) dV kV f fd) :
    FnG P w K mg base 1 f fd ["_law_row_text"] (sp_law_runs) := by
  refine z_fn F sc_law_runs (fun vs H Q E h => by
    obtain ⟨l, rfl, h1, k⟩ := h
    rfl) (fun cd A outer s H vs Q E hr ng h => ?_)
  obtain ⟨l, rfl, h1, k⟩ := h
  refine ⟨_, [_, none, none, none], rfl, (pss_cons (ps_set (i := 1) sc_law_runs.nd rfl (Or.inl rfl) (pe_lst pa_nil))
      (pss_cons (ps_for (passes_of rfl) rfl (z_enumS (by rfl) g.b_enumerate (pa_cons (pv 0) pa_nil)) (k_tup (K := K) (n := 2) (by rfl) (pgs_cons (pg_name (i := 2) sc_law_runs.nd rfl (Or.inl rfl)) (pgs_cons (pg_name (i := 3) sc_law_runs.nd rfl (Or.inl rfl)) pgs_nil))) (pss_one (ps_if (PW.pt (pw_and (pt_cmpR z_gt (pv 2) pe_int (nomark _)) (pw_and1 (pt_cmpR (k_eq (K := K) hr.units) (pe_ix (k_ix (K := K)) (pv 0) (pe_op z_sub (pv 2) pe_int) (fun _ _ => rfl)) (pv 3) (nomark _))))) (pss_one (ps_asg (pe_op (k_add (K := K)) (pe_ix (k_ix (K := K)) (pv 1) (pe_un un_neg pe_int) (fun _ _ => rfl)) pe_int) (pg_sub (pv 1) (pe_un un_neg pe_int) set_list))) (pss_one (ps_expr (pe_bm PySem.F.plainAttrs_list PySem.F.slot_list_append PySem.F.type_list_append mt_append (pv 1) (pa_cons pe_int pa_nil)))))))
      (pss_one (ps_ret (pv 1))))), ?_⟩
  (walk_at "a85c4f338"; walk_at "afaa010ed"; walk_at "afef05d44"; walk_at "a22972083"; walk_at "a3d76496c"; walk_at "a1fccfa88"; walk_at "a5c94feb2"; walk_at "ae1f83bb8"; walk_at "ad25b13d2"; walk_at "afef05d44"; walk_at "a113e001c")
  rename_i p H1 hn he hp
  refine forEnT (fun i σ H' => ∃ v w : Option V, σ = [some (T l), some (.ref p), v, w] ∧ Ex H H' ∧ H' p = some (.lst ((rsAll (l.take i)).1.map fun n => V.int (n : Nat)))) ⟨none, none, rfl, he, hp⟩ ?_ ?_
  · rintro i c σ H2 H3 hc ⟨v, w, rfl, ex, hp2⟩ hx
    have hi : i < l.length := (List.getElem?_eq_some_iff.mp hc).1
    have hl := rsAll_len l i (by omega)
    have hpx : H3 p = _ := hx.at_ hp2
    have ex3 := ex.trans hx
    have hlast : 0 < i → ∃ d, atI l ((0 + (i : Int)) - 1) = some d ∧ (rsAll (l.take i)).2 = [d] := fun hi0 => by
      refine ⟨l[i - 1], ?_, ?_⟩
      · have : (0 + (i : Int)) - 1 = ((i - 1 : Nat) : Int) := by omega
        rw [this]
        exact atI_nat (List.getElem?_eq_getElem (by omega))
      · rw [rsAll_last, List.length_take, Nat.min_eq_left (by omega), List.drop_take]
        have e1 : i - (i - 1) = 1 := by omega
        rw [e1, List.drop_eq_getElem_cons (by omega)]
        rfl
    have app : ¬ [c] = (rsAll (l.take i)).2 → rsAll (l.take (i + 1)) = ((rsAll (l.take i)).1 ++ [1], [c]) := fun hq => by rw [rsAll_take hc]; unfold rs; rw [if_neg hq]
    (walk_at "a3d76496c"; walk_at "ae44f4543"; walk_at "a641c25ec"; walk_at "a668f72f2"; walk_at "a2c441c41"; walk_at "ad25b13d2"; walk_at "ad15d6c32"; walk_at "a2251479c"; walk_at "a8a699a1b")
    refine zand_d (fun hq => ?_) (fun hq => ?_)
    · obtain ⟨d, hd1, hd2⟩ := hlast (by omega)
      (walk_at "a668f72f2"; walk_at "a2c441c41"; walk_at "a2c441c41"; walk_at "ad25b13d2"; walk_at "a2c441c41"; walk_at "ad25b13d2"; walk_at "ad15d6c32"; walk_at "a8c4e17e3"; walk_at "a4657a1b3"; walk_at "ad25b13d2"; walk_at "ae5260597"; walk_at "a8a699a1b")
      refine zif_d (fun hq2 => ?_) (fun hq2 => ?_)
      · have hlen := hl.2 (by omega)
        have er : rsAll (l.take (i + 1)) = (bump (rsAll (l.take i)).1, [c]) := by rw [rsAll_take hc]; unfold rs; rw [if_pos (by rw [hd2]; exact hq2.symm)]
        generalize ea : rsAll (l.take i) = s at *
        have hat : atI (s.1.map fun n => V.int (n : Nat)) (-1) = some (V.int ((s.1.getD (s.1.length - 1) 0 : Nat) : Int)) := by
          unfold atI ixN
          simp only [List.length_map]
          rw [if_neg (by omega), if_pos (by omega)]
          have e : ((-1 : Int) + (s.1.length : Int)).toNat = s.1.length - 1 := by omega
          rw [e]
          show (s.1.map fun n => V.int (n : Nat))[s.1.length - 1]? = _
          rw [List.getElem?_map, List.getD_eq_getElem?_getD, List.getElem?_eq_getElem (by omega)]
          rfl
        have hix : ixN (s.1.map fun n => V.int (n : Nat)).length (-1) = some (s.1.length - 1) := by
          unfold ixN
          simp only [List.length_map]
          rw [if_neg (by omega), if_pos (by omega)]
          congr 1
          omega
        (walk_at "aee1b00cb"; walk_at "a2c441c41"; walk_at "a2c441c41"; walk_at "ad25b13d2"; walk_at "af5a97b89"; walk_at "ad15d6c32"; walk_at "a250d16b4"; walk_at "a5c5685b7"; walk_at "ad15d6c32"; walk_at "a470d4ce9"; walk_at "a114ee3de"; walk_at "ad25b13d2"; walk_at "af5a97b89"; walk_at "ad15d6c32"; walk_at "a250d16b4"; walk_at "a9857b6e3"; walk_at "a28557e3a")
        rename_i H4 hp3 hb
        refine ⟨_, _, rfl, But.ex hb ex3 hn, ?_⟩
        rw [hp3, er]
        unfold bump
        rw [List.map_set]
        rfl
      · (walk_at "a5ba7d5f5"; walk_at "ad1b438b8"; walk_at "ad25b13d2"; walk_at "a39154dd1"; walk_at "ae1f83bb8"; walk_at "ad15d6c32"; walk_at "afef05d44"; walk_at "a320e47f0"; walk_at "a28557e3a")
        rename_i H4 hp3 hb
        refine ⟨_, _, rfl, But.ex hb ex3 hn, ?_⟩
        rw [hp3, app (by rw [hd2]; exact fun z => hq2 z.symm), List.map_append]
        rfl
    · have hi0 : i = 0 := by omega
      subst hi0
      (walk_at "a7b130abd"; walk_at "a5ba7d5f5"; walk_at "ad1b438b8"; walk_at "ad25b13d2"; walk_at "a39154dd1"; walk_at "ae1f83bb8"; walk_at "ad15d6c32"; walk_at "afef05d44"; walk_at "a320e47f0"; walk_at "a28557e3a")
      rename_i H4 hp3 hb
      refine ⟨_, _, rfl, But.ex hb ex3 hn, ?_⟩
      rw [hp3, app (by simp [rsAll]), List.map_append]
      rfl
  · rintro σ H2 ⟨v, w, rfl, ex, hp2⟩
    (walk_at "ac39ddb8c"; walk_at "ad25b13d2"; walk_at "a8f7cfc14")
    rw [List.take_length] at hp2
    exact k _ _ hn ex hp2
end
section
variable {P : Program} {w : World} {K : PySem.W.Frag} {mg : Str → Option Value} {base : Heap} {C_CountError C_NoCode C_NoBits C_NoTree C_NoPage C_NoWord C_NoTurned C_NoStretch C_NoRow C_NoPlace C_NoNode C_NoLetter C_NoDeed C_Full C_Torn C_Busy : Addr}
set_option maxHeartbeats 4000000 in
theorem ok_law_codes {f : Addr} {fd : FuncData} {dV kV : Value} (g : G mg)
    (F : Txt K "_law_codes" "_law_codes" (defArgs st_law_codes) (defBody st_law_codes) (defScope st_law_codes) dV kV f fd)
    (D_law_number_code : Def P w K mg base 1 "_law_number_code" [] (sp_law_number_code))
    (D_law_runs : Def P w K mg base 1 "_law_runs" [] (sp_law_runs)) :
    FnG P w K mg base 2 f fd ["_law_row_text"] (sp_law_codes) := by
  refine z_fn F sc_law_codes (fun vs H Q E h => by
    obtain ⟨l, rfl, h0, h1, k⟩ := h
    rfl) (fun cd A outer s H vs Q E hr ng h => ?_)
  obtain ⟨l, rfl, h0, h1, k⟩ := h
  refine ⟨_, [_, none, none], rfl, (pss_cons (ps_setLc (i := 1) (own := [("_law_number", 2)]) rfl sc_law_codes.nd rfl rfl (sw_true rfl rfl rfl (by decide +kernel)) (k_list (K := K) (pe_f D_law_runs (hr.mono (by decide)) ng (by rfl) (tkW (takes_ rfl rfl rfl rfl)) (pa_cons (pv 0) pa_nil))) (blkOk_by (own := [("_law_number", 2)]) (N := nm_law_codes) (sc := defScope st_law_codes) (by decide +kernel)) (fun _ _ _ _ _ => (pg_name (i := 2) sc_law_codes.nd rfl (Or.inl rfl))) (fun _ _ _ _ _ => pts_nil) (fun _ _ _ _ _ => (pe_f D_law_number_code (hr.mono (by decide)) ng (by rfl) tk0 (pa_cons (pv 2) pa_nil))))
      (pss_one (ps_ret (pe_tup (pa_cons (pe_op (k_add (K := K)) (z_str lit_32) (pv 0)) (pa_cons (pe_op (k_add (K := K)) (pe_op (k_add (K := K)) (z_str lit_31) (pe_ix (k_ix (K := K)) (pv 0) pe_int (fun _ _ => rfl))) (k_join (K := K) (z_str lit_10) (pv 1))) pa_nil)))))), ?_⟩
  have hat : atI l 0 = some (l.getD 0 48) := by
    refine atI_nat (j := 0) ?_
    rw [List.getD_eq_getElem?_getD, List.getElem?_eq_getElem h0]
    rfl
  have hr := runs_len l
  have hz : ∀ n ∈ runs l, (ncode n).length ≤ 20 := fun n hn => ncode_len (k := 10) (by have := runs_le l n hn; omega)
  have hf := flat_len hz
  (walk_at "a85c4f338"; walk_at "a2eb9ad30"; walk_at "a27ff4d3c"; walk_at "acdbb3963"; walk_at "ae1f83bb8"; walk_at "ad25b13d2"; walk_at "afef05d44"; walk_at "a51176d3b"; walk_at "a4e297517")
  refine lcL (ys := (runs l).map fun n => T (ncode n)) (SqL.of (by assumption)) (by simp) (by simp; omega) (fun _ => rfl) ?_ ?_
  · intro D i x H1 hD hx m
    rw [List.getElem?_map] at hx
    obtain ⟨n, hn, rfl⟩ := Option.map_eq_some_iff.mp hx
    have hm : n ∈ runs l := List.mem_of_getElem? hn
    have h2 := runs_pos l n hm
    have h3 := runs_le l n hm
    (walk_at "acdbb3963"; walk_at "ae1f83bb8"; walk_at "ad25b13d2"; walk_at "afef05d44"; walk_at "a99b2fe25")
    refine lm_put hD m (by assumption) ?_ (by simp; omega)
    rw [List.getElem?_map, hn, Int.toNat_natCast]
    rfl
  · intro D H1 hD ex hd
    have e : ((runs l).map fun n => T (ncode n)) = ((runs l).map ncode).map T := by rw [List.map_map]; rfl
    rw [e] at hd
    (walk_at "a3d76496c"; walk_at "ac39ddb8c"; walk_at "ab6f4d09a"; walk_at "ae1f83bb8"; walk_at "a2c441c41"; walk_at "ad15d6c32"; walk_at "ad25b13d2"; walk_at "a4e0c8928"; walk_at "ae1f83bb8"; walk_at "a2c441c41"; walk_at "a2c441c41"; walk_at "ad15d6c32"; walk_at "a2c441c41"; walk_at "ad25b13d2"; walk_at "ad15d6c32"; walk_at "a4657a1b3"; walk_at "a4e0c8928"; walk_at "af6af6ffb"; walk_at "ad15d6c32"; walk_at "a90efc992"; walk_at "ad25b13d2")
    refine join_ hd (by rw [hf.2, List.length_nil]; omega) ?_
    rw [joinT_nil]
    (walk_at "a4e0c8928"; walk_at "afef05d44"; walk_at "a0139b3e0"; walk_at "a8f7cfc14")
    rename_i p1 H2 hn1 he1 hp1 p2 H3 hn2 he2 hp2
    exact k _ _ ((Ex.trans he1 ex).back hn2) (Ex.trans (Ex.trans he1 ex) he2) hp2
end
section
variable {P : Program} {w : World} {K : PySem.W.Frag} {mg : Str → Option Value} {base : Heap} {C_CountError C_NoCode C_NoBits C_NoTree C_NoPage C_NoWord C_NoTurned C_NoStretch C_NoRow C_NoPlace C_NoNode C_NoLetter C_NoDeed C_Full C_Torn C_Busy : Addr}
set_option maxHeartbeats 4000000 in
theorem ok_law_draw {f : Addr} {fd : FuncData} {dV kV : Value} (g : G mg)
    (F : Txt K "_law_draw" "_law_draw" (defArgs st_law_draw) (defBody st_law_draw) (defScope st_law_draw) dV kV f fd) :
    FnG P w K mg base 1 f fd ["_law_urn_here", "_law_wide"] (sp_law_draw) := by
  refine z_fn F sc_law_draw (fun vs H Q E h => by
    obtain ⟨u, n, m, rfl, ⟨g0, c, k0, hu, g1, c1, c2, k1, k2⟩, hn, m1, m2, k⟩ := h
    rfl) (fun cd A outer s H vs Q E hr ng h => ?_)
  obtain ⟨u, n, m, rfl, ⟨g0, c, k0, hu, g1, c1, c2, k1, k2⟩, hn, m1, m2, k⟩ := h
  refine ⟨_, [_, _, none, none, none, none, none], rfl, (pss_cons (ps_if (pt_cmpR z_gt (pe_ix (k_ix (K := K)) (pv 0) pe_int (fun _ _ => rfl)) pe_int (nomark _)) (pss_cons (ps_set (i := 2) sc_law_draw.nd rfl (Or.inl rfl) (pe_op z_mod (pe_ix (k_ix (K := K)) (pv 0) pe_int (fun _ _ => rfl)) (pv 1)))
      (pss_cons (ps_asg (pe_op z_fdiv (pe_ix (k_ix (K := K)) (pv 0) pe_int (fun _ _ => rfl)) (pv 1)) (pg_sub (pv 0) pe_int set_list))
      (pss_one (ps_ret (pv 2))))) pss_nil)
      (pss_cons (ps_set (i := 3) sc_law_draw.nd rfl (Or.inl rfl) (pe_tup (pa_cons pe_int (pa_cons pe_int (pa_cons pe_int (pa_cons pe_int (pa_cons pe_int (pa_cons pe_int (pa_cons pe_int pa_nil)))))))))
      (pss_cons (ps_asg (pe_op (k_add (K := K)) (pe_ix (k_ix (K := K)) (pv 0) pe_int (fun _ _ => rfl)) pe_int) (pg_sub (pv 0) pe_int set_list))
      (pss_cons (ps_set (i := 4) sc_law_draw.nd rfl (Or.inl rfl) (pe_ix (k_ix (K := K)) (pv 0) pe_int (fun _ _ => rfl)))
      (pss_cons (ps_set (i := 5) sc_law_draw.nd rfl (Or.inl rfl) (pe_op (k_add (K := K)) (pe_op (k_add (K := K)) (pe_op z_mul (pe_ix (k_ix (K := K)) (pv 0) pe_int (fun _ _ => rfl)) (pe_op (k_add (K := K)) (pe_op z_mul pe_int (pv 4)) pe_int)) (pe_op z_mul (pe_op z_mul pe_int (pv 4)) (pv 4))) pe_int))
      (pss_cons (ps_set (i := 6) sc_law_draw.nd rfl (Or.inl rfl) (pe_op z_mod (pe_op z_pow (pv 5) pe_int) (pe_ix (k_ix (K := K)) (pv 3) (pe_op z_mod (pv 4) pe_int) (fun _ _ => rfl))))
      (pss_one (ps_ret (pe_op z_mod (pe_op z_fdiv (pe_op z_mod (pe_op z_mul (pv 6) (pe_op (k_add (K := K)) (pe_op z_fdiv (pv 6) pe_int) (pv 4))) (pe_ix (k_ix (K := K)) (pv 3) (pe_op z_mod (pe_op (k_add (K := K)) (pv 4) pe_int) pe_int) (fun _ _ => rfl))) pe_int) (pv 1)))))))))), ?_⟩
  have hk : (k0 + 1) * (k0 + 1) ≤ 1000000001 * 1000000001 := Int.mul_le_mul (by omega) (by omega) (by omega) (by omega)
  have hk0 : 0 ≤ (k0 + 1) * (k0 + 1) := Int.mul_nonneg (by omega) (by omega)
  have hc : c * (2 * (k0 + 1) + 1) ≤ 1152921504606846976 * 3000000003 := Int.mul_le_mul (by omega) (by omega) (by omega) (by omega)
  have hc0 : 0 ≤ c * (2 * (k0 + 1) + 1) := Int.mul_nonneg (by omega) (by omega)
  have e6 : 6007 * (k0 + 1) * (k0 + 1) = 6007 * ((k0 + 1) * (k0 + 1)) := Int.mul_assoc _ _ _
  have hpow : CPowW (c * (2 * (k0 + 1) + 1) + 6007 * (k0 + 1) * (k0 + 1) + 53) 3 := by
    have hb : (c * (2 * (k0 + 1) + 1) + 6007 * (k0 + 1) * (k0 + 1) + 53).natAbs < 2 ^ 200 := by
      have : (2 : Nat) ^ 200 = 1606938044258990275541962092341162602522202993782792835301376 := by decide
      omega
    have := intBits_le hb
    refine ⟨by omega, ?_⟩
    have e : (2 : Int) ^ 27 = 134217728 := by decide
    omega
  have hpr : ∀ i : Int, 0 ≤ i → i < 7 → ∃ p : Int, atI [V.int 2147483647, V.int 2147483629, V.int 2147483587, V.int 2147483579, V.int 2147483563, V.int 2147483549, V.int 2147483543] i = some (V.int p) ∧ 0 < p ∧ p < 2147483648 := by
    intro i h0 h7
    have : i = 0 ∨ i = 1 ∨ i = 2 ∨ i = 3 ∨ i = 4 ∨ i = 5 ∨ i = 6 := by omega
    rcases this with rfl | rfl | rfl | rfl | rfl | rfl | rfl
    all_goals exact ⟨_, rfl, by omega, by omega⟩
  obtain ⟨p1, hp1, p1a, p1b⟩ := hpr ((k0 + 1) % 7) (by omega) (by omega)
  obtain ⟨p2, hp2, p2a, p2b⟩ := hpr ((k0 + 1 + 3) % 7) (by omega) (by omega)
  have hmod : ∀ z : Int, 0 ≤ z % p1 ∧ z % p1 < p1 := fun z => ⟨Int.emod_nonneg _ (by omega), Int.emod_lt_of_pos _ p1a⟩
  (walk_at "a4584bbba"; walk_at "a668f72f2"; walk_at "a2c441c41"; walk_at "a2c441c41"; walk_at "ad25b13d2"; walk_at "ad15d6c32"; walk_at "a5c5685b7"; walk_at "ad15d6c32"; walk_at "a2251479c"; walk_at "a8a699a1b")
  refine zif_d (fun hq => ?_) (fun hq => ?_)
  · (walk_at "a85c4f338"; walk_at "a2c441c41"; walk_at "a2c441c41"; walk_at "ad25b13d2"; walk_at "ad15d6c32"; walk_at "a5c5685b7"; walk_at "ad25b13d2"; walk_at "a2b2fa54d"; walk_at "a3d76496c"; walk_at "a43bf46d2"; walk_at "a2c441c41"; walk_at "a2c441c41"; walk_at "ad25b13d2"; walk_at "ad15d6c32"; walk_at "a5c5685b7"; walk_at "ad25b13d2"; walk_at "a9f846afb"; walk_at "a114ee3de"; walk_at "ad25b13d2"; walk_at "ad15d6c32"; walk_at "a9857b6e3"; walk_at "ac39ddb8c"; walk_at "ad25b13d2"; walk_at "a8f7cfc14")
    rename_i H1 hp hb
    exact k _ _ (Int.emod_nonneg _ (by omega)) (Int.emod_lt_of_pos _ m1) ⟨_, _, _, hp, Int.ediv_nonneg g1 (by omega), c1, c2, k1, by omega⟩ hb
  · (walk_at "a3cf0dcf0"; walk_at "a85c4f338"; walk_at "ab6f4d09a"; walk_at "ae1f83bb8"; walk_at "ad15d6c32"; walk_at "ae1f83bb8"; walk_at "ad15d6c32"; walk_at "ae1f83bb8"; walk_at "ad15d6c32"; walk_at "ae1f83bb8"; walk_at "ad15d6c32"; walk_at "ae1f83bb8"; walk_at "ad15d6c32"; walk_at "ae1f83bb8"; walk_at "ad15d6c32"; walk_at "ae1f83bb8"; walk_at "ad15d6c32"; walk_at "afef05d44"; walk_at "a0139b3e0"; walk_at "a3d76496c"; walk_at "a43bf46d2"; walk_at "a2c441c41"; walk_at "a2c441c41"; walk_at "ad25b13d2"; walk_at "ad15d6c32"; walk_at "a5c5685b7"; walk_at "ad15d6c32"; walk_at "a470d4ce9"; walk_at "a114ee3de"; walk_at "ad25b13d2"; walk_at "ad15d6c32"; walk_at "a9857b6e3"; walk_at "a85c4f338"; walk_at "a2c441c41"; walk_at "ad25b13d2"; walk_at "ad15d6c32"; walk_at "a5c5685b7"; walk_at "a3d76496c"; walk_at "a85c4f338"; walk_at "a2c441c41"; walk_at "a2c441c41"; walk_at "a2c441c41"; walk_at "a2c441c41"; walk_at "ad25b13d2"; walk_at "ad15d6c32"; walk_at "a5c5685b7"; walk_at "a2c441c41"; walk_at "a2c441c41"; walk_at "ad15d6c32"; walk_at "ad25b13d2"; walk_at "a7bf746b0"; walk_at "ad15d6c32"; walk_at "a470d4ce9"; walk_at "a7bf746b0"; walk_at "a2c441c41"; walk_at "a2c441c41"; walk_at "ad15d6c32"; walk_at "ad25b13d2"; walk_at "a7bf746b0"; walk_at "ad25b13d2"; walk_at "a7bf746b0"; walk_at "a470d4ce9"; walk_at "ad15d6c32"; walk_at "a470d4ce9"; walk_at "a3d76496c"; walk_at "a85c4f338"; walk_at "a2c441c41"; walk_at "a2c441c41"; walk_at "ad25b13d2"; walk_at "ad15d6c32"; walk_at "af089cc0c"; walk_at "a2c441c41"; walk_at "ad25b13d2"; walk_at "a2c441c41"; walk_at "ad25b13d2"; walk_at "ad15d6c32"; walk_at "a2b2fa54d"; walk_at "a2cdecdaf"; walk_at "a2b2fa54d"; walk_at "a3d76496c"; walk_at "ac39ddb8c"; walk_at "a2c441c41"; walk_at "a2c441c41"; walk_at "a2c441c41"; walk_at "a2c441c41"; walk_at "ad25b13d2"; walk_at "a2c441c41"; walk_at "a2c441c41"; walk_at "ad25b13d2"; walk_at "ad15d6c32"; walk_at "a9f846afb"; walk_at "ad25b13d2"; walk_at "a470d4ce9")
    have hm := hmod ((c * (2 * (k0 + 1) + 1) + 6007 * (k0 + 1) * (k0 + 1) + 53) ^ (3 : Int).toNat)
    (walk_at "a7bf746b0"; walk_at "a2c441c41"; walk_at "ad25b13d2"; walk_at "a2c441c41"; walk_at "a2c441c41"; walk_at "ad25b13d2"; walk_at "ad15d6c32"; walk_at "a470d4ce9"; walk_at "ad15d6c32"; walk_at "a2b2fa54d"; walk_at "a2cdecdaf"; walk_at "a2b2fa54d"; walk_at "ad15d6c32"; walk_at "a9f846afb"; walk_at "ad25b13d2"; walk_at "a2b2fa54d"; walk_at "a8f7cfc14")
    rename_i q H1 hn1 he1 hp1' H2 hp2' hb2
    refine k _ _ (Int.emod_nonneg _ (by omega)) (Int.emod_lt_of_pos _ m1) ⟨_, _, _, hp2', g1, c1, c2, by omega, by omega⟩ ?_
    intro b o nb hbo
    exact hb2 b o nb (he1 b o hbo)
end
section
variable {P : Program} {w : World} {K : PySem.W.Frag} {mg : Str → Option Value} {base : Heap} {C_CountError C_NoCode C_NoBits C_NoTree C_NoPage C_NoWord C_NoTurned C_NoStretch C_NoRow C_NoPlace C_NoNode C_NoLetter C_NoDeed C_Full C_Torn C_Busy : Addr}
set_option maxHeartbeats 4000000 in
theorem ok_law_bits {f : Addr} {fd : FuncData} {dV kV : Value} (g : G mg)
    (F : Txt K "_law_bits" "_law_bits" (defArgs st_law_bits) (defBody st_law_bits) (defScope st_law_bits) dV kV f fd)
    (D_law_draw : Def P w K mg base 1 "_law_draw" [] (sp_law_draw)) :
    FnG P w K mg base 2 f fd ["_law_urn_here", "_law_most"] (sp_law_bits) := by
  refine z_fn F sc_law_bits (fun vs H Q E h => by
    obtain ⟨u, n, m, rfl, hu, hn, m1, m2, k⟩ := h
    rfl) (fun cd A outer s H vs Q E hr ng h => ?_)
  obtain ⟨u, n, m, rfl, hu, hn, m1, m2, k⟩ := h
  refine ⟨_, [_, _, none, none, none, none], rfl, (pss_cons (ps_set (i := 2) sc_law_bits.nd rfl (Or.inl rfl) (pe_f D_law_draw (hr.mono (by decide)) ng (by rfl) (tkW (takes_ rfl rfl rfl rfl)) (pa_cons (pv 0) (pa_cons (pe_op (k_add (K := K)) (pv 1) pe_int) pa_nil))))
      (pss_cons (ps_par (i := 3) (j := 4) (by rfl) sc_law_bits.nd rfl rfl (by decide) rfl rfl (pa_cons (pe_f D_law_draw (hr.mono (by decide)) ng (by rfl) (tkW (takes_ rfl rfl rfl rfl)) (pa_cons (pv 0) (pa_cons pe_int pa_nil))) (pa_cons (pe_f D_law_draw (hr.mono (by decide)) ng (by rfl) (tkW (takes_ rfl rfl rfl rfl)) (pa_cons (pv 0) (pa_cons pe_int pa_nil))) pa_nil)) (by rfl))
      (pss_cons (ps_set (i := 5) sc_law_bits.nd rfl (Or.inl rfl) (z_str lit_10))
      (pss_cons (ps_while (passes_of rfl) (pt_cmpR z_lt (pe_callB (k_len (K := K)) (by rfl) g.b_len bt_len (pa_cons (pv 5) pa_nil)) (pv 2) (nomark _)) (pss_one (ps_if (pt_cmpR (k_eq (K := K) hr.units) (pv 3) pe_int (nomark _)) (pss_one (ps_set (i := 5) sc_law_bits.nd rfl (Or.inl rfl) (pe_op (k_add (K := K)) (pv 5) (pe_ix (k_ix (K := K)) (z_str lit_41) (pe_f D_law_draw (hr.mono (by decide)) ng (by rfl) (tkW (takes_ rfl rfl rfl rfl)) (pa_cons (pv 0) (pa_cons pe_int pa_nil))) (fun _ _ => rfl))))) (pss_one (ps_if (pt_cmpR (k_eq (K := K) hr.units) (pv 3) pe_int (nomark _)) (pss_cons (ps_set (i := 5) sc_law_bits.nd rfl (Or.inl rfl) (pe_op (k_add (K := K)) (pv 5) (pe_op z_mul (pe_ix (k_ix (K := K)) (z_str lit_41) (pv 4) (fun _ _ => rfl)) (pe_op (k_add (K := K)) pe_int (pe_f D_law_draw (hr.mono (by decide)) ng (by rfl) (tkW (takes_ rfl rfl rfl rfl)) (pa_cons (pv 0) (pa_cons (pe_ix (k_ix (K := K)) (pe_lst (pa_cons pe_int (pa_cons pe_int (pa_cons pe_int pa_nil)))) (pe_f D_law_draw (hr.mono (by decide)) ng (by rfl) (tkW (takes_ rfl rfl rfl rfl)) (pa_cons (pv 0) (pa_cons pe_int pa_nil))) (fun _ _ => rfl)) pa_nil)))))))
      (pss_one (ps_set (i := 4) sc_law_bits.nd rfl (Or.inl rfl) (pe_op z_sub pe_int (pv 4))))) (pss_one (ps_if (pt_cmpR (k_eq (K := K) hr.units) (pv 3) pe_int (nomark _)) (pss_one (ps_set (i := 5) sc_law_bits.nd rfl (Or.inl rfl) (pe_op (k_add (K := K)) (pv 5) (pe_op z_mul (pe_ix (k_ix (K := K)) (z_str lit_41) (pv 4) (fun _ _ => rfl)) (pv 2))))) (pss_one (ps_set (i := 5) sc_law_bits.nd rfl (Or.inl rfl) (pe_op (k_add (K := K)) (pe_op (k_add (K := K)) (pv 5) (pe_op z_mul (z_str lit_12) (pe_f D_law_draw (hr.mono (by decide)) ng (by rfl) (tkW (takes_ rfl rfl rfl rfl)) (pa_cons (pv 0) (pa_cons pe_int pa_nil))))) (z_str lit_11)))))))))))
      (pss_one (ps_ret (pe_slice (k_sl (K := K)) (pv 5) po_none (po_some (pv 2))))))))), ?_⟩
  (walk_at "a85c4f338"; walk_at "acdbb3963"; walk_at "ae1f83bb8"; walk_at "ad25b13d2"; walk_at "ae1f83bb8"; walk_at "a2c441c41"; walk_at "ad25b13d2"; walk_at "ad15d6c32"; walk_at "a470d4ce9"; walk_at "afef05d44"; walk_at "a36af51d3"; walk_at "a3d76496c"; walk_at "a91c550d3"; walk_at "ae1f83bb8"; walk_at "acdbb3963"; walk_at "ae1f83bb8"; walk_at "ad25b13d2"; walk_at "ae1f83bb8"; walk_at "ad15d6c32"; walk_at "afef05d44"; walk_at "a36af51d3"; walk_at "ae1f83bb8"; walk_at "acdbb3963"; walk_at "ae1f83bb8"; walk_at "ad25b13d2"; walk_at "ae1f83bb8"; walk_at "ad15d6c32"; walk_at "afef05d44"; walk_at "a36af51d3"; walk_at "afef05d44"; walk_at "a843fc401"; walk_at "a3d76496c"; walk_at "a85c4f338"; walk_at "ad15d6c32"; walk_at "a3d76496c"; walk_at "a8253931e")
  rename_i am H1 am0 am1 hu1 hb1 way H2 way0 way1 hu2 hb2 sg H3 sg0 sg1 hu3 hb3
  have hb0 : But u H H3 := (hb1.trans hb2).trans hb3
  have bit01 : ∀ d : Int, 0 ≤ d → d < 2 → ∃ c, atI [48, 49] d = some c ∧ Bit c := by
    intro d h0 h1
    have : d = 0 ∨ d = 1 := by omega
    rcases this with rfl | rfl
    · exact ⟨48, rfl, .inl rfl⟩
    · exact ⟨49, rfl, .inr rfl⟩
  refine seq_while (fun j σ H' => ∃ (t : List Nat) (sg : Int) (r : Nat), σ = [some (.ref u), some (.int m), some (.int am), some (.int way), some (.int sg), some (T t)] ∧ 0 ≤ sg ∧ sg < 2 ∧ Bits t ∧ t.length ≤ 2100 ∧ j = am.toNat - t.length ∧ r + 2 * j ≤ n + 2050 ∧ Urn H' u r ∧ But u H H') am.toNat
    ⟨[], sg, n + 1 + 1 + 1, rfl, sg0, sg1, Bits.nil, by simp, by simp, by omega, hu3, hb0⟩ ?_
  rintro j σ H4 ⟨t, sg, r, rfl, s0, s1, ht, htl, ej, hr, hur, hbb⟩
  (walk_at "a668f72f2"; walk_at "a2c441c41"; walk_at "a33f2f4b5"; walk_at "ae1f83bb8"; walk_at "ad25b13d2"; walk_at "afef05d44"; walk_at "a6ebb81e6"; walk_at "ad25b13d2"; walk_at "a3d0fbaf8"; walk_at "a8a699a1b")
  refine zwh_d (fun hq => ?_) (fun hq => ?_)
  · obtain ⟨c, hc, hcb⟩ := bit01 sg s0 s1
    (walk_at "ae44f4543"; walk_at "a668f72f2"; walk_at "a2c441c41"; walk_at "ad25b13d2"; walk_at "ad15d6c32"; walk_at "ab84a1bc3"; walk_at "a8a699a1b")
    refine zif_d (fun w0 => ?_) (fun w0 => ?_)
    · (walk_at "a7f6d4dcc"; walk_at "a2c441c41"; walk_at "ad25b13d2"; walk_at "a2c441c41"; walk_at "ad15d6c32"; walk_at "acdbb3963"; walk_at "ae1f83bb8"; walk_at "ad25b13d2"; walk_at "ae1f83bb8"; walk_at "ad15d6c32"; walk_at "afef05d44"; walk_at "a36af51d3")
      rename_i d H5 d0 d1 hu5 hb5
      obtain ⟨c2, hc2, hcb2⟩ := bit01 d d0 d1
      (walk_at "a4657a1b3"; walk_at "a4e0c8928"; walk_at "a3d76496c"; walk_at "a28557e3a")
      exact less_ (am.toNat - (t.length + 1)) (by omega) ⟨_, _, r + 1, rfl, s0, s1, ht.app (Bits.one hcb2), by simp; omega, by simp, by omega, hu5, hbb.trans hb5⟩
    · (walk_at "ae44f4543"; walk_at "a668f72f2"; walk_at "a2c441c41"; walk_at "ad25b13d2"; walk_at "ad15d6c32"; walk_at "ab84a1bc3"; walk_at "a8a699a1b")
      refine zif_d (fun w1 => ?_) (fun w1 => ?_)
      · (walk_at "a85c4f338"; walk_at "a2c441c41"; walk_at "ad25b13d2"; walk_at "a2c441c41"; walk_at "a2c441c41"; walk_at "ad15d6c32"; walk_at "ad25b13d2"; walk_at "a4657a1b3"; walk_at "a2c441c41"; walk_at "ad15d6c32"; walk_at "acdbb3963"; walk_at "ae1f83bb8"; walk_at "ad25b13d2"; walk_at "ae1f83bb8"; walk_at "a2c441c41"; walk_at "afaa010ed"; walk_at "ae1f83bb8"; walk_at "ad15d6c32"; walk_at "ae1f83bb8"; walk_at "ad15d6c32"; walk_at "ae1f83bb8"; walk_at "ad15d6c32"; walk_at "afef05d44"; walk_at "a22972083"; walk_at "acdbb3963"; walk_at "ae1f83bb8"; walk_at "ad25b13d2"; walk_at "ae1f83bb8"; walk_at "ad15d6c32"; walk_at "afef05d44"; walk_at "a36af51d3")
        rename_i p H5 hn5 he5 hp5 d H6 d0 d1 hu6 hb6
        have ha : ∃ z : Int, atI [V.int 4, V.int 20, V.int 70] d = some (V.int z) ∧ 0 < z ∧ z ≤ 70 := by
          have : d = 0 ∨ d = 1 ∨ d = 2 := by omega
          rcases this with rfl | rfl | rfl
          · exact ⟨4, rfl, by omega, by omega⟩
          · exact ⟨20, rfl, by omega, by omega⟩
          · exact ⟨70, rfl, by omega, by omega⟩
        obtain ⟨z, hz, z0, z1⟩ := ha
        (walk_at "a5c5685b7"; walk_at "afef05d44"; walk_at "a36af51d3"; walk_at "a470d4ce9"; walk_at "a1d30e24a"; walk_at "a4e0c8928"; walk_at "a3d76496c"; walk_at "a7f6d4dcc"; walk_at "a2c441c41"; walk_at "ad15d6c32"; walk_at "ad25b13d2"; walk_at "a8c4e17e3"; walk_at "a3d76496c"; walk_at "a28557e3a")
        rename_i e H7 e0 e1 hu7 hb7
        have el : (1 + e).toNat = e.toNat + 1 := by omega
        have hl : ([c] : List Nat).length * (1 + e).toNat ≤ 70 := by simp; omega
        skip
        refine less_ (am.toNat - (t.length + (1 + e).toNat)) (by omega) ⟨_, _, r + 1 + 1, rfl, by omega, by omega, ht.app ((Bits.one hcb).rep _), ?_, ?_, by omega, hu7, ((hbb.ext he5).trans hb6).trans hb7⟩
        · rw [List.length_append, rep_len]; simp; omega
        · rw [List.length_append, rep_len]; simp
      · (walk_at "ae44f4543"; walk_at "a668f72f2"; walk_at "a2c441c41"; walk_at "ad25b13d2"; walk_at "ad15d6c32"; walk_at "ab84a1bc3"; walk_at "a8a699a1b")
        refine zif_d (fun w2 => ?_) (fun w2 => ?_)
        · have hl : ([c] : List Nat).length * am.toNat ≤ 1000 := by simp; omega
          (walk_at "a7f6d4dcc"; walk_at "a2c441c41"; walk_at "ad25b13d2"; walk_at "a2c441c41"; walk_at "a2c441c41"; walk_at "ad15d6c32"; walk_at "ad25b13d2"; walk_at "a4657a1b3"; walk_at "ad25b13d2"; walk_at "a1d30e24a"; walk_at "a4e0c8928"; walk_at "a3d76496c"; walk_at "a28557e3a")
          refine less_ (am.toNat - (t.length + am.toNat)) (by omega) ⟨_, _, r, rfl, s0, s1, ht.app ((Bits.one hcb).rep _), ?_, ?_, by omega, hur, hbb⟩
          · rw [List.length_append, rep_len]; simp; omega
          · rw [List.length_append, rep_len]; simp
        · (walk_at "a7f6d4dcc"; walk_at "a2c441c41"; walk_at "a2c441c41"; walk_at "ad25b13d2"; walk_at "a2c441c41"; walk_at "ad15d6c32"; walk_at "acdbb3963"; walk_at "ae1f83bb8"; walk_at "ad25b13d2"; walk_at "ae1f83bb8"; walk_at "ad15d6c32"; walk_at "afef05d44"; walk_at "a36af51d3"; walk_at "a1d30e24a"; walk_at "a4e0c8928"; walk_at "ad15d6c32"; walk_at "a4e0c8928"; walk_at "a3d76496c"; walk_at "a28557e3a")
          rename_i d H5 d0 d1 hu5 hb5
          have hl : ([48] : List Nat).length * d.toNat ≤ 9 := by simp; omega
          skip
          refine less_ (am.toNat - (t.length + d.toNat + 1)) (by omega) ⟨_, _, r + 1, rfl, s0, s1, (ht.app ((Bits.one (.inl rfl)).rep _)).app (Bits.one (.inr rfl)), ?_, ?_, by omega, hu5, hbb.trans hb5⟩
          · rw [List.length_append, List.length_append, rep_len]; simp; omega
          · rw [List.length_append, List.length_append, rep_len]; simp
  · (walk_at "ac39ddb8c"; walk_at "a1e0e6469"; walk_at "ad25b13d2"; walk_at "a67128e29"; walk_at "a0ebae3b6"; walk_at "ad25b13d2"; walk_at "a6a11b937"; walk_at "a55f8cc73"; walk_at "a8f7cfc14")
    rw [cut_to _ _ am0]
    refine k _ _ (ht.take _) ?_ (hur.mono (by omega)) hbb
    rw [List.length_take]
    omega
end
section
variable {P : Program} {w : World} {K : PySem.W.Frag} {mg : Str → Option Value} {base : Heap} {C_CountError C_NoCode C_NoBits C_NoTree C_NoPage C_NoWord C_NoTurned C_NoStretch C_NoRow C_NoPlace C_NoNode C_NoLetter C_NoDeed C_Full C_Torn C_Busy : Addr}
set_option maxHeartbeats 4000000 in
theorem ok_law_odd {f : Addr} {fd : FuncData} {dV kV : Value} (g : G mg)
    (F : Txt K "_law_odd" "_law_odd" (defArgs st_law_odd) (defBody st_law_odd) (defScope st_law_odd) dV kV f fd)
    (D_law_draw : Def P w K mg base 1 "_law_draw" [] (sp_law_draw)) :
    FnG P w K mg base 2 f fd ["_law_urn_here"] (sp_law_odd) := by
  refine z_fn F sc_law_odd (fun vs H Q E h => by
    obtain ⟨u, n, L, rfl, s, h1, k⟩ := h
    rfl) (fun cd A outer s H vs Q E hr ng h => ?_)
  obtain ⟨u, n, L, rfl, s, h1, k⟩ := h
  refine ⟨_, [_, none], rfl, (pss_cons (ps_set (i := 1) sc_law_odd.nd rfl (Or.inl rfl) (pe_lst (pa_cons pe_non (pa_cons pe_bl (pa_cons pe_bl (pa_cons pe_int (pa_cons pe_int (pa_cons (pe_un un_neg pe_int) (pa_cons (z_str lit_40) (pa_cons (z_str lit_39) (pa_cons (z_str lit_38) (pa_cons (z_str lit_37) (pa_cons (z_str lit_36) (pa_cons (pe_tup pa_nil) (pa_cons (pe_lst pa_nil) (pa_cons (pe_lst (pa_cons pe_int pa_nil)) (pa_cons (pe_tup (pa_cons pe_int pa_nil)) (pa_cons (pe_tup (pa_cons (z_str lit_35) (pa_cons pe_int pa_nil))) (pa_cons (pe_lst (pa_cons (z_str lit_34) pa_nil)) (pa_cons (pe_tup (pa_cons (pe_tup pa_nil) pa_nil)) (pa_cons (pe_lst (pa_cons pe_non pa_nil)) (pa_cons (z_str lit_33) (pa_cons (z_str lit_32) (pa_cons (z_str lit_31) (pa_cons (z_str lit_30) pa_nil)))))))))))))))))))))))))
      (pss_one (ps_ret (pe_ix (k_ix (K := K)) (pv 1) (pe_f D_law_draw (hr.mono (by decide)) ng (by rfl) (tkW (takes_ rfl rfl rfl rfl)) (pa_cons (pv 0) (pa_cons pe_int pa_nil))) (fun _ _ => rfl))))), ?_⟩
  (walk_at "a85c4f338"; walk_at "afaa010ed"; walk_at "ae1f83bb8"; walk_at "ad15d6c32"; walk_at "ae1f83bb8"; walk_at "ad15d6c32"; walk_at "ae1f83bb8"; walk_at "ad15d6c32"; walk_at "ae1f83bb8"; walk_at "ad15d6c32"; walk_at "ae1f83bb8"; walk_at "ad15d6c32"; walk_at "ae1f83bb8"; walk_at "af5a97b89"; walk_at "ad15d6c32"; walk_at "a250d16b4"; walk_at "ae1f83bb8"; walk_at "ad15d6c32"; walk_at "ae1f83bb8"; walk_at "ad15d6c32"; walk_at "ae1f83bb8"; walk_at "ad15d6c32"; walk_at "ae1f83bb8"; walk_at "ad15d6c32"; walk_at "ae1f83bb8"; walk_at "ad15d6c32"; walk_at "ae1f83bb8"; walk_at "ab6f4d09a"; walk_at "afef05d44"; walk_at "a1d9c2e1b"; walk_at "ae1f83bb8"; walk_at "afaa010ed"; walk_at "afef05d44"; walk_at "a5a35570c"; walk_at "ae1f83bb8"; walk_at "afaa010ed"; walk_at "ae1f83bb8"; walk_at "ad15d6c32"; walk_at "afef05d44"; walk_at "a5a35570c"; walk_at "ae1f83bb8"; walk_at "ab6f4d09a"; walk_at "ae1f83bb8"; walk_at "ad15d6c32"; walk_at "afef05d44"; walk_at "a1d9c2e1b"; walk_at "ae1f83bb8"; walk_at "ab6f4d09a"; walk_at "ae1f83bb8"; walk_at "ad15d6c32"; walk_at "ae1f83bb8"; walk_at "ad15d6c32"; walk_at "afef05d44"; walk_at "a1d9c2e1b"; walk_at "ae1f83bb8"; walk_at "afaa010ed"; walk_at "ae1f83bb8"; walk_at "ad15d6c32"; walk_at "afef05d44"; walk_at "a5a35570c"; walk_at "ae1f83bb8"; walk_at "ab6f4d09a"; walk_at "ae1f83bb8"; walk_at "ab6f4d09a"; walk_at "afef05d44"; walk_at "a1d9c2e1b"; walk_at "afef05d44"; walk_at "a1d9c2e1b"; walk_at "ae1f83bb8"; walk_at "afaa010ed"; walk_at "ae1f83bb8"; walk_at "ad15d6c32"; walk_at "afef05d44"; walk_at "a5a35570c"; walk_at "ae1f83bb8"; walk_at "ad15d6c32"; walk_at "ae1f83bb8"; walk_at "ad15d6c32"; walk_at "ae1f83bb8"; walk_at "ad15d6c32"; walk_at "ae1f83bb8"; walk_at "ad15d6c32"; walk_at "afef05d44"; walk_at "a5a35570c"; walk_at "a3d76496c"; walk_at "ac39ddb8c"; walk_at "a2c441c41"; walk_at "ad25b13d2"; walk_at "acdbb3963"; walk_at "ae1f83bb8"; walk_at "ad25b13d2"; walk_at "ae1f83bb8"; walk_at "ad15d6c32"; walk_at "afef05d44"; walk_at "abca2a96c")
  rename_i d H1 d0 d1 s1
  rcases (by omega : d = 0 ∨ d = 1 ∨ d = 2 ∨ d = 3 ∨ d = 4 ∨ d = 5 ∨ d = 6 ∨ d = 7 ∨ d = 8 ∨ d = 9 ∨ d = 10 ∨ d = 11 ∨ d = 12 ∨ d = 13 ∨ d = 14 ∨ d = 15 ∨ d = 16 ∨ d = 17 ∨ d = 18 ∨ d = 19 ∨ d = 20 ∨ d = 21 ∨ d = 22) with rfl | rfl | rfl | rfl | rfl | rfl | rfl | rfl | rfl | rfl | rfl | rfl | rfl | rfl | rfl | rfl | rfl | rfl | rfl | rfl | rfl | rfl | rfl
  all_goals
    (walk_at "a5c5685b7"; walk_at "a8f7cfc14")
    first
    | ((with_reducible refine' k .non .none _ (S.to (s1.oddN) ?odb1)); (case odb1 => walk_at "sbb"))
    | ((with_reducible refine' k (.bl _) (.bool _) _ (S.to (s1.oddB) ?odb2)); (case odb2 => walk_at "sbb"))
    | ((with_reducible refine' k (.int _) (.int _) _ (S.to (s1.oddI ?oda3) ?odb3)); (case odb3 => walk_at "sbb"); (case oda3 => decide))
    | ((with_reducible refine' k (T _) (Dt _) _ (S.to (s1.oddT ?oda4 ?odc4) ?odb4)); (case odb4 => walk_at "sbb"); (case oda4 => decide); (case odc4 => decide))
    | (with_reducible refine' k (.ref _) _ _ ?odg5; case odg5 => with_reducible refine' oddL_to s1 ?odp5 ?odd5 ?oda5 ?odc5 ?odb5; (case odp5 => walk_at "pk"); (case odd5 => intro K h; walk_at "da"); (case oda5 => decide); (case odc5 => decide); (case odb5 => walk_at "sbb"))
    | (with_reducible refine' k (.ref _) _ _ ?odg6; case odg6 => with_reducible refine' oddU_to s1 ?odp6 ?odd6 ?oda6 ?odc6 ?odb6; (case odp6 => walk_at "pk"); (case odd6 => intro K h; walk_at "da"); (case oda6 => decide); (case odc6 => decide); (case odb6 => walk_at "sbb"))
    | (with_reducible refine' k (.ref _) _ _ ?odg7; case odg7 => with_reducible refine' oddV_to s1 ?odp7 ?odq7 ?odb7; (case odp7 => walk_at "pk"); (case odq7 => walk_at "pk"); (case odb7 => walk_at "sbb"))
    | fail "none"
end
section
variable {P : Program} {w : World} {K : PySem.W.Frag} {mg : Str → Option Value} {base : Heap} {C_CountError C_NoCode C_NoBits C_NoTree C_NoPage C_NoWord C_NoTurned C_NoStretch C_NoRow C_NoPlace C_NoNode C_NoLetter C_NoDeed C_Full C_Torn C_Busy : Addr}
set_option maxHeartbeats 4000000 in
theorem ok_law_block {f : Addr} {fd : FuncData} {dV kV : Value} (g : G mg)
    (F : Txt K "_law_block" "_law_block" (defArgs st_law_block) (defBody st_law_block) (defScope st_law_block) dV kV f fd)
    (D_law_bits : Def P w K mg base 2 "_law_bits" [] (sp_law_bits))
    (D_law_draw : Def P w K mg base 1 "_law_draw" [] (sp_law_draw)) :
    FnG P w K mg base 3 f fd ["_law_urn_here"] (sp_law_block) := by
  refine z_fn F sc_law_block (fun vs H Q E h => by
    obtain ⟨u, n, rfl, hu, hn, k⟩ := h
    rfl) (fun cd A outer s H vs Q E hr ng h => ?_)
  obtain ⟨u, n, rfl, hu, hn, k⟩ := h
  refine ⟨_, [_], rfl, (pss_one (ps_ret (k_orT (K := K) (pe_f D_law_bits (hr.mono (by decide)) ng (by rfl) (tkW (takes_ rfl rfl rfl rfl)) (pa_cons (pv 0) (pa_cons (pe_ix (k_ix (K := K)) (pe_lst (pa_cons pe_int (pa_cons pe_int (pa_cons pe_int pa_nil)))) (pe_f D_law_draw (hr.mono (by decide)) ng (by rfl) (tkW (takes_ rfl rfl rfl rfl)) (pa_cons (pv 0) (pa_cons pe_int pa_nil))) (fun _ _ => rfl)) pa_nil))) (pe_one (pe_ix (k_ix (K := K)) (z_str lit_41) (pe_f D_law_draw (hr.mono (by decide)) ng (by rfl) (tkW (takes_ rfl rfl rfl rfl)) (pa_cons (pv 0) (pa_cons pe_int pa_nil))) (fun _ _ => rfl)))))), ?_⟩
  (walk_at "ac39ddb8c"; walk_at "a7152c8b5"; walk_at "acdbb3963"; walk_at "ae1f83bb8"; walk_at "ad25b13d2"; walk_at "ae1f83bb8"; walk_at "a2c441c41"; walk_at "afaa010ed"; walk_at "ae1f83bb8"; walk_at "ad15d6c32"; walk_at "ae1f83bb8"; walk_at "ad15d6c32"; walk_at "ae1f83bb8"; walk_at "ad15d6c32"; walk_at "afef05d44"; walk_at "a22972083"; walk_at "acdbb3963"; walk_at "ae1f83bb8"; walk_at "ad25b13d2"; walk_at "ae1f83bb8"; walk_at "ad15d6c32"; walk_at "afef05d44"; walk_at "a36af51d3")
  rename_i p H1 hn1 he1 hp1 d H2 d0 d1 hu2 hb2
  have ha : ∃ z : Int, atI [V.int 4, V.int 16, V.int 64] d = some (V.int z) ∧ 0 ≤ z ∧ z ≤ 64 := by
    have : d = 0 ∨ d = 1 ∨ d = 2 := by omega
    rcases this with rfl | rfl | rfl
    · exact ⟨4, rfl, by omega, by omega⟩
    · exact ⟨16, rfl, by omega, by omega⟩
    · exact ⟨64, rfl, by omega, by omega⟩
  obtain ⟨z, hz, z0, z1⟩ := ha
  (walk_at "a5c5685b7"; walk_at "afef05d44"; walk_at "a4817c14a")
  rename_i l H3 hl hl2 hu3 hb3
  refine zorT_S (by omega) (fun hne => ?_) (fun he => ?_)
  · (walk_at "a8f7cfc14")
    exact k _ _ hl (List.length_pos_iff.mpr hne) (by omega) (hu3.mono (by omega)) (he1.but (hb2.trans hb3))
  · (walk_at "a2c441c41"; walk_at "ad15d6c32"; walk_at "acdbb3963"; walk_at "ae1f83bb8"; walk_at "ad25b13d2"; walk_at "ae1f83bb8"; walk_at "ad15d6c32"; walk_at "afef05d44"; walk_at "a36af51d3")
    rename_i e H4 e0 e1 hu4 hb4
    have hc : ∃ c, atI [48, 49] e = some c ∧ Bit c := by
      have : e = 0 ∨ e = 1 := by omega
      rcases this with rfl | rfl
      · exact ⟨48, rfl, .inl rfl⟩
      · exact ⟨49, rfl, .inr rfl⟩
    obtain ⟨c, hc, hcb⟩ := hc
    (walk_at "a4657a1b3"; walk_at "a8f7cfc14")
    exact k _ _ (Bits.one hcb) (by simp) (by simp) (hu4.mono (by omega)) (he1.but ((hb2.trans hb3).trans hb4))
end
section
variable {P : Program} {w : World} {K : PySem.W.Frag} {mg : Str → Option Value} {base : Heap} {C_CountError C_NoCode C_NoBits C_NoTree C_NoPage C_NoWord C_NoTurned C_NoStretch C_NoRow C_NoPlace C_NoNode C_NoLetter C_NoDeed C_Full C_Torn C_Busy : Addr}
set_option maxHeartbeats 4000000 in
theorem ok_law_spoilt_code {f : Addr} {fd : FuncData} {dV kV : Value} (g : G mg)
    (F : Txt K "_law_spoilt_code" "_law_spoilt_code" (defArgs st_law_spoilt_code) (defBody st_law_spoilt_code) (defScope st_law_spoilt_code) dV kV f fd)
    (D_law_draw : Def P w K mg base 1 "_law_draw" [] (sp_law_draw)) :
    FnG P w K mg base 2 f fd ["_law_urn_here", "_law_written"] (sp_law_spoilt_code) := by
  refine z_fn F sc_law_spoilt_code (fun vs H Q E h => by
    obtain ⟨u, n, x, L, rfl, s, hn, h0, hl, sx, k⟩ := h
    rfl) (fun cd A outer s H vs Q E hr ng h => ?_)
  obtain ⟨u, n, x, L, rfl, s, hn, h0, hl, sx, k⟩ := h
  refine ⟨_, [_, _, none, none, none, none, none], rfl, (pss_cons (ps_set (i := 2) sc_law_spoilt_code.nd rfl (Or.inl rfl) (pe_f D_law_draw (hr.mono (by decide)) ng (by rfl) (tkW (takes_ rfl rfl rfl rfl)) (pa_cons (pv 0) (pa_cons (pe_callB (k_len (K := K)) (by rfl) g.b_len bt_len (pa_cons (pv 1) pa_nil)) pa_nil))))
      (pss_cons (ps_par3 (i := 3) (j := 4) (l := 5) (by rfl) sc_law_spoilt_code.nd rfl rfl rfl (by decide) (by decide) (by decide) rfl rfl rfl (pa_cons (pe_ix (k_ix (K := K)) (z_str lit_42) (pe_f D_law_draw (hr.mono (by decide)) ng (by rfl) (tkW (takes_ rfl rfl rfl rfl)) (pa_cons (pv 0) (pa_cons pe_int pa_nil))) (fun _ _ => rfl)) (pa_cons (pe_slice (k_sl (K := K)) (pv 1) po_none (po_some (pv 2))) (pa_cons (pe_slice (k_sl (K := K)) (pv 1) (po_some (pe_op (k_add (K := K)) (pv 2) pe_int)) po_none) pa_nil))) (by rfl))
      (pss_cons (ps_set (i := 6) sc_law_spoilt_code.nd rfl (Or.inl rfl) (pe_lst (pa_cons (pe_op (k_add (K := K)) (pv 4) (pv 5)) (pa_cons (pe_op (k_add (K := K)) (pe_op (k_add (K := K)) (pv 4) (pe_op z_mul (pe_slice (k_sl (K := K)) (pv 1) (po_some (pv 2)) (po_some (pe_op (k_add (K := K)) (pv 2) pe_int))) pe_int)) (pv 5)) (pa_cons (pv 4) (pa_cons (pe_op (k_add (K := K)) (pe_op (k_add (K := K)) (pv 4) (pv 3)) (pv 5)) pa_nil))))))
      (pss_cons (ps_set (i := 6) sc_law_spoilt_code.nd rfl (Or.inl rfl) (pe_op (k_add (K := K)) (pv 6) (pe_lst (pa_cons (pe_op (k_add (K := K)) (pe_op (k_add (K := K)) (pv 4) (pv 3)) (pe_slice (k_sl (K := K)) (pv 1) (po_some (pv 2)) po_none)) (pa_cons (pe_op (k_add (K := K)) (pv 1) (pv 3)) (pa_cons (pe_op (k_add (K := K)) (pv 1) (z_str lit_11)) (pa_cons (pe_op (k_add (K := K)) (pe_ix (k_ix (K := K)) (pv 1) pe_int (fun _ _ => rfl)) (pv 1)) pa_nil)))))))
      (pss_one (ps_ret (pe_ix (k_ix (K := K)) (pv 6) (pe_f D_law_draw (hr.mono (by decide)) ng (by rfl) (tkW (takes_ rfl rfl rfl rfl)) (pa_cons (pv 0) (pa_cons pe_int pa_nil))) (fun _ _ => rfl)))))))), ?_⟩
  (walk_at "a85c4f338"; walk_at "acdbb3963"; walk_at "ae1f83bb8"; walk_at "ad25b13d2"; walk_at "ae1f83bb8"; walk_at "a33f2f4b5"; walk_at "ae1f83bb8"; walk_at "ad25b13d2"; walk_at "afef05d44"; walk_at "a6ebb81e6"; walk_at "afef05d44"; walk_at "abca2a96c"; walk_at "a3d76496c"; walk_at "abe7a5488"; walk_at "ae1f83bb8"; walk_at "a2c441c41"; walk_at "ad15d6c32"; walk_at "acdbb3963"; walk_at "ae1f83bb8"; walk_at "ad25b13d2"; walk_at "ae1f83bb8"; walk_at "ad15d6c32"; walk_at "afef05d44"; walk_at "abca2a96c")
  rename_i d1 H1 d10 d11 s1 d2 H2 d20 d21 s2
  obtain ⟨i, rfl⟩ : ∃ i : Nat, d1 = i := ⟨d1.toNat, by omega⟩
  have hi : i < x.length := by omega
  obtain ⟨c, hc, hcb⟩ : ∃ c, atI [48, 49, 112, 114, 48, 32, 50] d2 = some c ∧ c < 128 := by
    rcases (by omega : d2 = 0 ∨ d2 = 1 ∨ d2 = 2 ∨ d2 = 3 ∨ d2 = 4 ∨ d2 = 5 ∨ d2 = 6) with rfl | rfl | rfl | rfl | rfl | rfl | rfl
    all_goals exact ⟨_, rfl, by decide⟩
  obtain ⟨e, he⟩ : ∃ e, x[i]? = some e := ⟨_, List.getElem?_eq_getElem hi⟩
  obtain ⟨f, hf⟩ : ∃ f, x[0]? = some f := ⟨_, List.getElem?_eq_getElem h0⟩
  have hat : atI x 0 = some f := atI_nat (j := 0) hf
  have hA : cut x none (some (i : Int)) = x.take i := by rw [cut_to _ _ (by omega)]; rfl
  have hB : cut x (some ((i : Int) + 1)) none = x.drop (i + 1) := by rw [cut_from _ _ (by omega)]; rfl
  have hC : cut x (some (i : Int)) (some ((i : Int) + 1)) = [e] := by rw [cut_opt, he]; rfl
  have hD : cut x (some (i : Int)) none = x.drop i := by rw [cut_from _ _ (by omega)]; rfl
  have lA : (x.take i).length = i := by rw [List.length_take]; omega
  have lB : (x.drop (i + 1)).length = x.length - (i + 1) := List.length_drop
  have lD : (x.drop i).length = x.length - i := List.length_drop
  have sA : Sm (x.take i) := fun c hc => sx c (List.mem_of_mem_take hc)
  have sB : Sm (x.drop (i + 1)) := fun c hc => sx c (List.mem_of_mem_drop hc)
  have sD : Sm (x.drop i) := fun c hc => sx c (List.mem_of_mem_drop hc)
  have se : e < 128 := sx e (List.mem_of_getElem? he)
  have sf : f < 128 := sx f (List.mem_of_getElem? hf)
  have lE : (rep [e] (2 : Int).toNat).length = 2 := by rw [rep_len]; rfl
  clear s s1
  (walk_at "a4657a1b3"; walk_at "ae1f83bb8"; walk_at "a1e0e6469"; walk_at "ad25b13d2"; walk_at "a67128e29"; walk_at "a0ebae3b6"; walk_at "ad25b13d2"; walk_at "a6a11b937"; walk_at "a55f8cc73"; walk_at "ae1f83bb8"; walk_at "a1e0e6469"; walk_at "ad25b13d2"; walk_at "a0ebae3b6"; walk_at "a2c441c41"; walk_at "ad25b13d2"; walk_at "ad15d6c32"; walk_at "a470d4ce9"; walk_at "a6a11b937"; walk_at "a67128e29"; walk_at "a55f8cc73"; walk_at "afef05d44"; walk_at "a75238d54"; walk_at "a3d76496c"; walk_at "a85c4f338"; walk_at "afaa010ed"; walk_at "ae1f83bb8"; walk_at "a2c441c41"; walk_at "ad25b13d2"; walk_at "ad25b13d2")
  rw [hA, hB]
  (walk_at "a4e0c8928"; walk_at "ae1f83bb8"; walk_at "a2c441c41"; walk_at "a2c441c41"; walk_at "ad25b13d2"; walk_at "a2c441c41"; walk_at "a1e0e6469"; walk_at "ad25b13d2"; walk_at "a0ebae3b6"; walk_at "ad25b13d2"; walk_at "a6a11b937"; walk_at "a0ebae3b6"; walk_at "a2c441c41"; walk_at "ad25b13d2"; walk_at "ad15d6c32"; walk_at "a470d4ce9"; walk_at "a6a11b937"; walk_at "a55f8cc73"; walk_at "ad15d6c32")
  rw [hC]
  (walk_at "a1d30e24a"; walk_at "a4e0c8928"; walk_at "ad25b13d2"; walk_at "a4e0c8928"; walk_at "ae1f83bb8"; walk_at "ad25b13d2"; walk_at "ae1f83bb8"; walk_at "a2c441c41"; walk_at "a2c441c41"; walk_at "ad25b13d2"; walk_at "ad25b13d2"; walk_at "a4e0c8928"; walk_at "ad25b13d2"; walk_at "a4e0c8928"; walk_at "afef05d44"; walk_at "a5a35570c"; walk_at "a3d76496c"; walk_at "a85c4f338"; walk_at "a2c441c41"; walk_at "ad25b13d2"; walk_at "afaa010ed"; walk_at "ae1f83bb8"; walk_at "a2c441c41"; walk_at "a2c441c41"; walk_at "ad25b13d2"; walk_at "ad25b13d2"; walk_at "a4e0c8928"; walk_at "a1e0e6469"; walk_at "ad25b13d2"; walk_at "a0ebae3b6"; walk_at "ad25b13d2"; walk_at "a6a11b937"; walk_at "a67128e29"; walk_at "a55f8cc73")
  rw [hD]
  (walk_at "a4e0c8928"; walk_at "ae1f83bb8"; walk_at "a2c441c41"; walk_at "ad25b13d2"; walk_at "ad25b13d2"; walk_at "a4e0c8928"; walk_at "ae1f83bb8"; walk_at "a2c441c41"; walk_at "ad25b13d2"; walk_at "ad15d6c32"; walk_at "a4e0c8928"; walk_at "ae1f83bb8"; walk_at "a2c441c41"; walk_at "a2c441c41"; walk_at "ad25b13d2"; walk_at "ad15d6c32"; walk_at "a4657a1b3"; walk_at "ad25b13d2"; walk_at "a4e0c8928"; walk_at "afef05d44"; walk_at "a5a35570c"; walk_at "a1cd4c4d9"; walk_at "a3d76496c"; walk_at "ac39ddb8c"; walk_at "a2c441c41"; walk_at "ad25b13d2"; walk_at "acdbb3963"; walk_at "ae1f83bb8"; walk_at "ad25b13d2"; walk_at "ae1f83bb8"; walk_at "ad15d6c32"; walk_at "afef05d44"; walk_at "abca2a96c")
  rename_i p H3 s3 d3 H4 d30 d31 s4
  rcases (by omega : d3 = 0 ∨ d3 = 1 ∨ d3 = 2 ∨ d3 = 3 ∨ d3 = 4 ∨ d3 = 5 ∨ d3 = 6 ∨ d3 = 7) with rfl | rfl | rfl | rfl | rfl | rfl | rfl | rfl
  · (walk_at "a5c5685b7"; walk_at "a8f7cfc14")
    refine k _ _ ?_ (sA.app sB) (by walk_at "sub")
    simp only [List.length_append, List.length_singleton, lA, lB, lD, lE]
    omega
  · (walk_at "a5c5685b7"; walk_at "a8f7cfc14")
    refine k _ _ ?_ ((sA.app ((Sm.one se).rep _)).app sB) (by walk_at "sub")
    simp only [List.length_append, List.length_singleton, lA, lB, lD, lE]
    omega
  · (walk_at "a5c5685b7"; walk_at "a8f7cfc14")
    refine k _ _ ?_ (sA) (by walk_at "sub")
    rw [lA]
    omega
  · (walk_at "a5c5685b7"; walk_at "a8f7cfc14")
    refine k _ _ ?_ ((sA.app (Sm.one hcb)).app sB) (by walk_at "sub")
    simp only [List.length_append, List.length_singleton, lA, lB, lD, lE]
    omega
  · (walk_at "a5c5685b7"; walk_at "a8f7cfc14")
    refine k _ _ ?_ ((sA.app (Sm.one hcb)).app sD) (by walk_at "sub")
    simp only [List.length_append, List.length_singleton, lA, lB, lD, lE]
    omega
  · (walk_at "a5c5685b7"; walk_at "a8f7cfc14")
    refine k _ _ ?_ (sx.app (Sm.one hcb)) (by walk_at "sub")
    simp only [List.length_append, List.length_singleton, lA, lB, lD, lE]
    omega
  · (walk_at "a5c5685b7"; walk_at "a8f7cfc14")
    refine k _ _ ?_ (sx.app (Sm.one (by decide))) (by walk_at "sub")
    simp only [List.length_append, List.length_singleton, lA, lB, lD, lE]
    omega
  · (walk_at "a5c5685b7"; walk_at "a8f7cfc14")
    refine k _ _ ?_ ((Sm.one sf).app sx) (by walk_at "sub")
    simp only [List.length_append, List.length_singleton, lA, lB, lD, lE]
    omega
end
section
variable {P : Program} {w : World} {K : PySem.W.Frag} {mg : Str → Option Value} {base : Heap} {C_CountError C_NoCode C_NoBits C_NoTree C_NoPage C_NoWord C_NoTurned C_NoStretch C_NoRow C_NoPlace C_NoNode C_NoLetter C_NoDeed C_Full C_Torn C_Busy : Addr}
set_option maxHeartbeats 4000000 in
theorem ok_law_goes_on {f : Addr} {fd : FuncData} {dV kV : Value} (g : G mg)
    (F : Txt K "_law_goes_on" "_law_goes_on" (defArgs st_law_goes_on) (defBody st_law_goes_on) (defScope st_law_goes_on) dV kV f fd) :
    FnG P w K mg base 1 f fd ["_law_row_text"] (sp_law_goes_on) := by
  refine z_fn F sc_law_goes_on (fun vs H Q E h => by
    obtain ⟨l, L, rfl, s, hl, k⟩ := h
    rfl) (fun cd A outer s H vs Q E hr ng h => ?_)
  obtain ⟨l, L, rfl, s, hl, k⟩ := h
  refine ⟨_, [_, none, none, none, none, none, none], rfl, (pss_cons (ps_if (PW.pt (pw_or (pt_cmpR (k_ni (K := K)) (pe_slice (k_sl (K := K)) (pv 0) po_none (po_some pe_int)) (pe_lst (pa_cons (z_str lit_32) (pa_cons (z_str lit_31) pa_nil))) rfl) (pw_or1 (pt_not (pt_val (pe_callB (k_all (K := K) rfl) (by rfl) g.b_all bt_all (pa_cons (pe_lc (own := [("_law_sign", 6)]) (by rfl) sc_law_goes_on.nd (pi_str (pe_slice (k_sl (K := K)) (pv 0) (po_some pe_int) po_none)) (blkOk_by (own := [("_law_sign", 6)]) (N := nm_law_goes_on) (sc := defScope st_law_goes_on) (by decide +kernel)) (fun _ _ _ _ _ => (pg_name (i := 6) sc_law_goes_on.nd rfl (Or.inl rfl))) (fun _ _ _ _ _ => pts_nil) (fun _ _ _ _ _ => (pe_cmpR (k_in (K := K)) (pv 6) (z_str lit_41) rfl))) pa_nil))))))) (pss_one (ps_ret (pe_callTy z_int_of (by rfl) g.b_int bt_int (pa_cons (pe_cmpR (k_eq (K := K) hr.units) (pv 0) (z_str lit_10) (nomark _)) pa_nil)))) pss_nil)
      (pss_cons (ps_if (pt_cmpR (k_eq (K := K) hr.units) (pe_ix (k_ix (K := K)) (pv 0) pe_int (fun _ _ => rfl)) (z_str lit_32) (nomark _)) (pss_one (ps_ret (pe_ix (k_ix (K := K)) (pe_lst (pa_cons pe_int (pa_cons pe_int (pa_cons pe_int pa_nil)))) (pe_op z_mul (pe_callTy z_int_of (by rfl) g.b_int bt_int (pa_cons (pe_cmpR z_lt (pe_callB (k_len (K := K)) (by rfl) g.b_len bt_len (pa_cons (pv 0) pa_nil)) pe_int (nomark _)) pa_nil)) (pe_op (k_add (K := K)) pe_int (pe_callTy z_int_of (by rfl) g.b_int bt_int (pa_cons (pe_cmpR z_gt (pe_callB (k_len (K := K)) (by rfl) g.b_len bt_len (pa_cons (pv 0) pa_nil)) pe_int (nomark _)) pa_nil)))) (fun _ _ => rfl)))) pss_nil)
      (pss_cons (ps_asg (pe_tup (pa_cons pe_int (pa_cons pe_int pa_nil))) (k_tup (K := K) (n := 2) (by rfl) (pgs_cons (pg_name (i := 1) sc_law_goes_on.nd rfl (Or.inl rfl)) (pgs_cons (pg_name (i := 2) sc_law_goes_on.nd rfl (Or.inl rfl)) pgs_nil))))
      (pss_cons (ps_while (passes_of rfl) (pt_cmpR z_lt (pv 1) (pe_callB (k_len (K := K)) (by rfl) g.b_len bt_len (pa_cons (pv 0) pa_nil)) (nomark _)) (pss_cons (ps_set (i := 3) sc_law_goes_on.nd rfl (Or.inl rfl) (pe_op z_sub (pe_callB (k_len (K := K)) (by rfl) g.b_len bt_len (pa_cons (pe_slice (k_sl (K := K)) (pv 0) (po_some (pv 1)) po_none) pa_nil)) (pe_callB (k_len (K := K)) (by rfl) g.b_len bt_len (pa_cons (z_lstrip (pe_slice (k_sl (K := K)) (pv 0) (po_some (pv 1)) po_none) (z_str lit_12)) pa_nil))))
      (pss_cons (ps_set (i := 4) sc_law_goes_on.nd rfl (Or.inl rfl) (pe_slice (k_sl (K := K)) (pv 0) (po_some (pe_op (k_add (K := K)) (pv 1) (pv 3))) (po_some (pe_op (k_add (K := K)) (pe_op (k_add (K := K)) (pv 1) (pe_op z_mul pe_int (pv 3))) pe_int))))
      (pss_cons (ps_set (i := 5) sc_law_goes_on.nd rfl (Or.inl rfl) (k_orT (K := K) (pv 4) (pe_one (z_str lit_11))))
      (pss_cons (ps_set (i := 2) sc_law_goes_on.nd rfl (Or.inl rfl) (pe_op (k_add (K := K)) (pv 2) (pe_callTy k_intBit (by rfl) g.b_int bt_int (pa_cons (pe_op (k_add (K := K)) (pv 5) (pe_op z_mul (z_str lit_12) (pe_op z_sub (pe_op (k_add (K := K)) (pv 3) pe_int) (pe_callB (k_len (K := K)) (by rfl) g.b_len bt_len (pa_cons (pv 5) pa_nil))))) (pa_cons pe_int pa_nil)))))
      (pss_cons (ps_if (pt_cmpR z_gt (pv 2) pe_int (nomark _)) (pss_one (ps_ret pe_int)) pss_nil)
      (pss_cons (ps_if (pt_cmpR z_lt (pe_callB (k_len (K := K)) (by rfl) g.b_len bt_len (pa_cons (pv 4) pa_nil)) (pe_op (k_add (K := K)) (pv 3) pe_int) (nomark _)) (pss_one (ps_ret pe_int)) pss_nil)
      (pss_one (ps_set (i := 1) sc_law_goes_on.nd rfl (Or.inl rfl) (pe_op (k_add (K := K)) (pe_op (k_add (K := K)) (pv 1) (pe_op z_mul pe_int (pv 3))) pe_int))))))))))
      (pss_one (ps_ret (pe_ix (k_ix (K := K)) (pe_lst (pa_cons pe_int (pa_cons pe_int pa_nil))) (pe_callTy z_int_of (by rfl) g.b_int bt_int (pa_cons (pe_cmpR z_gt (pe_callB (k_len (K := K)) (by rfl) g.b_len bt_len (pa_cons (pv 0) pa_nil)) pe_int (nomark _)) pa_nil)) (fun _ _ => rfl)))))))), ?_⟩
  have hcut1 : cut l none (some 1) = l.take 1 := by rw [cut_to _ _ (by omega)]; rfl
  have hcut2 : cut l (some 1) none = l.drop 1 := by rw [cut_from _ _ (by omega)]; rfl
  (walk_at "a4584bbba"; walk_at "a2c422e4c"; walk_at "a668f72f2"; walk_at "a2c441c41"; walk_at "a1e0e6469"; walk_at "ad25b13d2"; walk_at "a67128e29"; walk_at "a0ebae3b6"; walk_at "ad15d6c32"; walk_at "a6a11b937"; walk_at "a55f8cc73"; walk_at "afaa010ed"; walk_at "ae1f83bb8"; walk_at "ad15d6c32"; walk_at "ae1f83bb8"; walk_at "ad15d6c32"; walk_at "afef05d44"; walk_at "a5a35570c")
  rw [hcut1]
  rename_i p G1 s1
  clear s
  rcases l with _ | ⟨c, r0⟩
  · refine niLt_ (s1.at_ .head) rfl rfl (by decide) ?_
    (walk_at "a8a699a1b"; walk_at "ad16059ae"; walk_at "a259846d4"; walk_at "ac39ddb8c"; walk_at "a33f2f4b5"; walk_at "ae1f83bb8"; walk_at "a2c441c41"; walk_at "ad25b13d2"; walk_at "ad15d6c32"; walk_at "a603f4d20"; walk_at "afef05d44"; walk_at "a66292a6d"; walk_at "a8f7cfc14")
    exact k _ (by walk_at "sub")
  · have et : (c :: r0).take 1 = [c] := rfl
    have ed : (c :: r0).drop 1 = r0 := rfl
    have hl2 : r0.length ≤ 599 := by rw [List.length_cons] at hl; omega
    rw [et]
    by_cases hh : c = 112 ∨ c = 114
    · refine niLf_ (s1.at_ .head) rfl rfl (by rw [in_pr, decide_eq_true hh]) ?_
      (walk_at "a8a699a1b"; walk_at "a018c9fb9"; walk_at "a35e1d11b"; walk_at "a5ca36a29"; walk_at "a33f2f4b5"; walk_at "ae1f83bb8"; walk_at "a2eb9ad30"; walk_at "aacce3769"; walk_at "a1e0e6469"; walk_at "ad25b13d2"; walk_at "a0ebae3b6"; walk_at "ad15d6c32"; walk_at "a6a11b937"; walk_at "a67128e29"; walk_at "a55f8cc73"; walk_at "a04585a94")
      rw [hcut2, ed]
      refine lcTS (ys := (r0.map fun b => decide (b ∈ [48, 49])).map V.bl) s1 (by rw [List.length_map, List.length_map]) (by rw [List.length_map, List.length_map]; omega) (fun x => rfl) (fun D i b H3 hc s3 => ?_) (fun D H3 s3 => ?_)
      · (walk_at "a2c441c41"; walk_at "ad25b13d2"; walk_at "ad15d6c32"; walk_at "a893a35dc")
        refine put1_S (acc' := ((r0.map fun b => decide (b ∈ [48, 49])).map V.bl).take (i + 1)) s3 (by walk_at "rp") (by rw [List.take_succ, List.getElem?_map, List.getElem?_map, hc]; rfl) (by rw [List.length_take, List.length_map, List.length_map]; omega) fun G11 g11 => ?_
        walk_at "sub"
      · clear s1
        (walk_at "afef05d44")
        refine all_ (bs := r0.map fun b => decide (b ∈ [48, 49])) (s3.at_ .head) ?_
        by_cases hb : Bits r0
        · rw [all_inT hb]
          rcases hh with rfl | rfl
          · have hat : atI (112 :: r0) 0 = some 112 := atI_nat (j := 0) rfl
            have htl : (112 :: r0).length = r0.length + 1 := rfl
            have hg := goes_p hb
            have a5 : atI [V.int 0, V.int 1, V.int 2] ((if decide (((112 :: r0).length : Int) < 66) = true then 1 else 0) * (1 + if decide (1 < ((112 :: r0).length : Int)) = true then 1 else 0)) = some (.int (goes (112 :: r0) : Nat)) := by
              rw [hg]
              by_cases q1 : r0.length < 65
              · rw [if_pos q1, if_pos (decide_eq_true (show ((112 :: r0).length : Int) < 66 by omega))]
                by_cases q2 : r0 = []
                · subst q2; rfl
                · have := List.length_pos_iff.mpr q2
                  rw [if_neg q2, if_pos (decide_eq_true (show 1 < ((112 :: r0).length : Int) by omega))]
                  rfl
              · rw [if_neg q1, if_neg (by rw [decide_eq_true_eq]; omega), Int.zero_mul]
                rfl
            (walk_at "a8a699a1b"; walk_at "a539a4fa3"; walk_at "a3cf0dcf0"; walk_at "a4584bbba"; walk_at "a668f72f2"; walk_at "a2c441c41"; walk_at "a2c441c41"; walk_at "ad25b13d2"; walk_at "ad15d6c32"; walk_at "a4657a1b3"; walk_at "ad15d6c32"; walk_at "a603f4d20"; walk_at "a8a699a1b"; walk_at "a259846d4"; walk_at "ac39ddb8c"; walk_at "a2c441c41"; walk_at "afaa010ed"; walk_at "ae1f83bb8"; walk_at "ad15d6c32"; walk_at "ae1f83bb8"; walk_at "ad15d6c32"; walk_at "ae1f83bb8"; walk_at "ad15d6c32"; walk_at "afef05d44"; walk_at "a5a35570c"; walk_at "a2c441c41"; walk_at "a33f2f4b5"; walk_at "ae1f83bb8"; walk_at "a2c441c41"; walk_at "a33f2f4b5"; walk_at "ae1f83bb8"; walk_at "ad25b13d2"; walk_at "afef05d44"; walk_at "a6ebb81e6"; walk_at "ad15d6c32"; walk_at "a3d0fbaf8"; walk_at "afef05d44"; walk_at "a66292a6d"; walk_at "a2c441c41"; walk_at "ad15d6c32"; walk_at "a33f2f4b5"; walk_at "ae1f83bb8"; walk_at "a2c441c41"; walk_at "a33f2f4b5"; walk_at "ae1f83bb8"; walk_at "ad25b13d2"; walk_at "afef05d44"; walk_at "a6ebb81e6"; walk_at "ad15d6c32"; walk_at "a2251479c"; walk_at "afef05d44"; walk_at "a66292a6d"; walk_at "a470d4ce9"; walk_at "a7bf746b0"; walk_at "a5c5685b7"; walk_at "a8f7cfc14")
            exact k _ (by walk_at "sub")
          · have hat : atI (114 :: r0) 0 = some 114 := atI_nat (j := 0) rfl
            rcases r0 with _ | ⟨b, r⟩
            · (walk_at "a8a699a1b"; walk_at "a539a4fa3"; walk_at "a3cf0dcf0"; walk_at "a4584bbba"; walk_at "a668f72f2"; walk_at "a2c441c41"; walk_at "a2c441c41"; walk_at "ad25b13d2"; walk_at "ad15d6c32"; walk_at "a4657a1b3"; walk_at "ad15d6c32"; walk_at "ae5260597"; walk_at "a8a699a1b"; walk_at "a1fcbcf3e"; walk_at "a3cf0dcf0"; walk_at "a43bf46d2"; walk_at "ab6f4d09a"; walk_at "ae1f83bb8"; walk_at "ad15d6c32"; walk_at "ae1f83bb8"; walk_at "ad15d6c32"; walk_at "afef05d44"; walk_at "a1d9c2e1b"; walk_at "afbecc87a"; walk_at "a54305b80"; walk_at "a3beb7cd4"; walk_at "a54305b80"; walk_at "a3beb7cd4"; walk_at "abc6e375f"; walk_at "a3d76496c"; walk_at "a8253931e")
              refine while_ (fun m σ H' => σ = [some (T [114]), some (.int 2), some (.int 0), none, none, none, none] ∧ S L H') 0 ⟨rfl, by walk_at "sub"⟩ ?_
              rintro m σ H5 ⟨rfl, s5⟩
              (walk_at "a668f72f2"; walk_at "a2c441c41"; walk_at "ad25b13d2"; walk_at "a33f2f4b5"; walk_at "ae1f83bb8"; walk_at "ad25b13d2"; walk_at "afef05d44"; walk_at "a6ebb81e6"; walk_at "a3d0fbaf8"; walk_at "a8a699a1b")
              refine zwh_d (fun z => absurd z (by decide)) (fun _ => ?_)
              have a6 : atI [V.int 1, V.int 2] (if decide (2 < (([114] : List Nat).length : Int)) = true then 1 else 0) = some (.int (goes [114] : Nat)) := rfl
              (walk_at "ac39ddb8c"; walk_at "a2c441c41"; walk_at "afaa010ed"; walk_at "ae1f83bb8"; walk_at "ad15d6c32"; walk_at "ae1f83bb8"; walk_at "ad15d6c32"; walk_at "afef05d44"; walk_at "a5a35570c"; walk_at "a33f2f4b5"; walk_at "ae1f83bb8"; walk_at "a2c441c41"; walk_at "a33f2f4b5"; walk_at "ae1f83bb8"; walk_at "ad25b13d2"; walk_at "afef05d44"; walk_at "a6ebb81e6"; walk_at "ad15d6c32"; walk_at "a2251479c"; walk_at "afef05d44"; walk_at "a66292a6d"; walk_at "a5c5685b7"; walk_at "a8f7cfc14")
              exact k _ (by walk_at "sub")
            · have htl : (114 :: b :: r).length = r.length + 2 := rfl
              have hb2 : b = 48 ∨ b = 49 := hb b List.mem_cons_self
              have hbr : Bits r := fun c hc => hb c (List.mem_cons_of_mem _ hc)
              have hg := goes_r hb
              (walk_at "a8a699a1b"; walk_at "a539a4fa3"; walk_at "a3cf0dcf0"; walk_at "a4584bbba"; walk_at "a668f72f2"; walk_at "a2c441c41"; walk_at "a2c441c41"; walk_at "ad25b13d2"; walk_at "ad15d6c32"; walk_at "a4657a1b3"; walk_at "ad15d6c32"; walk_at "ae5260597"; walk_at "a8a699a1b"; walk_at "a1fcbcf3e"; walk_at "a3cf0dcf0"; walk_at "a43bf46d2"; walk_at "ab6f4d09a"; walk_at "ae1f83bb8"; walk_at "ad15d6c32"; walk_at "ae1f83bb8"; walk_at "ad15d6c32"; walk_at "afef05d44"; walk_at "a1d9c2e1b"; walk_at "afbecc87a"; walk_at "a54305b80"; walk_at "a3beb7cd4"; walk_at "a54305b80"; walk_at "a3beb7cd4"; walk_at "abc6e375f"; walk_at "a3d76496c"; walk_at "a8253931e")
              refine seq_while (fun m σ H' => ∃ (k A : Nat) (v3 v4 v5 : Option V), σ = [some (T (114 :: b :: r)), some (.int ((k + 2 : Nat) : Int)), some (.int (A : Nat)), v3, v4, v5, none] ∧ m = r.length - k ∧ k ≤ r.length ∧ crun (r.take k) = .num A 0 ∧ A ≤ 64 ∧ S L H') r.length ⟨0, 0, none, none, none, rfl, rfl, Nat.zero_le _, rfl, by omega, by walk_at "sub"⟩ ?_
              rintro m σ H5 ⟨k0, A, v3, v4, v5, rfl, rfl, hk, hc, hA, s5⟩
              clear s3
              have hcA : cut (114 :: b :: r) (some ((k0 + 2 : Nat) : Int)) none = r.drop k0 := by rw [cut_from _ _ (by omega), Int.toNat_natCast]; rfl
              (walk_at "a668f72f2"; walk_at "a2c441c41"; walk_at "ad25b13d2"; walk_at "a33f2f4b5"; walk_at "ae1f83bb8"; walk_at "ad25b13d2"; walk_at "afef05d44"; walk_at "a6ebb81e6"; walk_at "a3d0fbaf8"; walk_at "a8a699a1b")
              refine zwh_d (fun q => ?_) (fun q => ?_)
              · have hk2 : k0 < r.length := by omega
                have hln := nz_le (r.drop k0)
                have hRl : (r.drop k0).length = r.length - k0 := List.length_drop
                have hRl2 : ((r.drop k0).drop (nz (r.drop k0))).length = r.length - k0 - nz (r.drop k0) := by rw [List.length_drop, hRl]
                have htl2 : r.length ≤ 598 := by omega
                (walk_at "a85c4f338"; walk_at "a2c441c41"; walk_at "a33f2f4b5"; walk_at "ae1f83bb8"; walk_at "a1e0e6469"; walk_at "ad25b13d2"; walk_at "a0ebae3b6"; walk_at "ad25b13d2"; walk_at "a6a11b937"; walk_at "a67128e29"; walk_at "a55f8cc73"; walk_at "afef05d44")
                rw [hcA]
                (walk_at "a6ebb81e6"; walk_at "a33f2f4b5"; walk_at "ae1f83bb8"; walk_at "af6af6ffb"; walk_at "a1e0e6469"; walk_at "ad25b13d2"; walk_at "a0ebae3b6"; walk_at "ad25b13d2"; walk_at "a6a11b937"; walk_at "a67128e29"; walk_at "a55f8cc73"; walk_at "a90efc992"; walk_at "ad15d6c32")
                rw [hcA]
                (walk_at "a53594ee3"; walk_at "afef05d44"; walk_at "a6ebb81e6"; walk_at "a8c4e17e3"; walk_at "a3d76496c"; walk_at "a85c4f338"; walk_at "a1e0e6469"; walk_at "ad25b13d2"; walk_at "a0ebae3b6"; walk_at "a2c441c41"; walk_at "ad25b13d2"; walk_at "ad25b13d2"; walk_at "a470d4ce9"; walk_at "a6a11b937"; walk_at "a0ebae3b6"; walk_at "a2c441c41"; walk_at "a2c441c41"; walk_at "ad25b13d2"; walk_at "a2c441c41"; walk_at "ad15d6c32"; walk_at "ad25b13d2"; walk_at "a7bf746b0"; walk_at "a470d4ce9"; walk_at "ad15d6c32"; walk_at "a470d4ce9"; walk_at "a6a11b937"; walk_at "a55f8cc73"; walk_at "a3d76496c"; walk_at "a85c4f338"; walk_at "a7152c8b5"; walk_at "ad25b13d2")
                obtain ⟨j, hj⟩ : ∃ j, j = nz (r.drop k0) := ⟨_, rfl⟩
                rw [← hj] at hRl2 hln ⊢
                have ej : (((r.drop k0).length : Nat) : Int) - ((((r.drop k0).drop j).length : Nat) : Int) = ((j : Nat) : Int) := by omega
                have hcB : cut (114 :: b :: r) (some (((k0 + 2 : Nat) : Int) + (j : Nat))) (some (((k0 + 2 : Nat) : Int) + 2 * (j : Nat) + 1)) = (r.drop (k0 + j)).take (j + 1) := by
                  rw [cut_mid _ _ _ (by omega) (by omega), show (((k0 + 2 : Nat) : Int) + (j : Nat)).toNat = k0 + j + 2 by omega, show (((k0 + 2 : Nat) : Int) + 2 * (j : Nat) + 1 - (((k0 + 2 : Nat) : Int) + (j : Nat))).toNat = j + 1 by omega]
                  rfl
                rw [ej, hcB]
                obtain ⟨fs, hfs⟩ : ∃ fs, fs = (r.drop (k0 + j)).take (j + 1) := ⟨_, rfl⟩
                rw [← hfs]
                obtain ⟨v, hv⟩ : ∃ v, v = if fs = [] then 2 ^ j else bv fs * 2 ^ (j + 1 - fs.length) := ⟨_, rfl⟩
                have rk : Reck r A k0 j fs v := ⟨hj, hfs, hv⟩
                obtain ⟨n1, n2, n3⟩ := rk.state hbr hk2 hc
                have hfl : fs.length ≤ j + 1 := by rw [hfs, List.length_take]; exact Nat.min_le_left _ _
                have hfb : Bits fs := by rw [hfs]; exact fun c hc => hbr c (List.mem_of_mem_drop (List.mem_of_mem_take hc))
                have hgoes : goes (114 :: b :: r) = goesR r := hg
                refine zorT_S (by omega) (fun q1 => ?_) (fun q1 => ?_)
                · have hFB := hfb
                  have hVV : bv fs * 2 ^ (j + 1 - fs.length) = v := by rw [hv, if_neg q1]
                  have hrep : rep [48] (((j : Nat) : Int) + 1 - ((fs.length : Nat) : Int)).toNat = List.replicate (j + 1 - fs.length) 48 := by
                    rw [rep_zeros]; congr 1; omega
                  have hbits : Bits (fs ++ rep [48] (((j : Nat) : Int) + 1 - ((fs.length : Nat) : Int)).toNat) := by
                    rw [hrep]
                    intro c hc
                    rcases List.mem_append.mp hc with z | z
                    · exact hFB c z
                    · exact .inl (List.eq_of_mem_replicate z)
                  have hlen9 : (fs ++ rep [48] (((j : Nat) : Int) + 1 - ((fs.length : Nat) : Int)).toNat).length = j + 1 := by
                    rw [hrep, List.length_append, List.length_replicate]; omega
                  have hne9 : fs ++ rep [48] (((j : Nat) : Int) + 1 - ((fs.length : Nat) : Int)).toNat ≠ [] := fun e => by
                    rw [e] at hlen9; cases hlen9
                  have hrl9 : (rep [48] (((j : Nat) : Int) + 1 - ((fs.length : Nat) : Int)).toNat).length ≤ 600 := by rw [hrep, List.length_replicate]; omega
                  have hbv : bv (fs ++ rep [48] (((j : Nat) : Int) + 1 - ((fs.length : Nat) : Int)).toNat) = v := by rw [hrep, bv_zeros, hVV]
                  (walk_at "a3d76496c"; walk_at "a85c4f338"; walk_at "a2c441c41"; walk_at "ad25b13d2"; walk_at "a33f2f4b5"; walk_at "ae1f83bb8"; walk_at "a2c441c41"; walk_at "ad25b13d2"; walk_at "a2c441c41"; walk_at "ad15d6c32"; walk_at "a2c441c41"; walk_at "a2c441c41"; walk_at "ad25b13d2"; walk_at "ad15d6c32"; walk_at "a470d4ce9"; walk_at "a33f2f4b5"; walk_at "ae1f83bb8"; walk_at "ad25b13d2"; walk_at "afef05d44"; walk_at "a6ebb81e6"; walk_at "a8c4e17e3"; walk_at "a1d30e24a"; walk_at "a4e0c8928"; walk_at "ae1f83bb8"; walk_at "ad15d6c32"; walk_at "afef05d44"; walk_at "a77250c20"; walk_at "a470d4ce9"; walk_at "a3d76496c"; walk_at "a4584bbba"; walk_at "a668f72f2"; walk_at "a2c441c41"; walk_at "ad25b13d2"; walk_at "ad15d6c32"; walk_at "a2251479c"; walk_at "a8a699a1b")
                  rw [hbv]
                  refine zif_d (fun q3 => ?_) (fun q3 => ?_)
                  · have hz : goes (114 :: b :: r) = 0 := by
                      rw [hgoes]
                      refine goesR_zero ?_
                      have := least_take r (k0 + j + fs.length)
                      omega
                    rw [hz] at k
                    (walk_at "ac39ddb8c"; walk_at "ad15d6c32"; walk_at "a8f7cfc14")
                    exact k _ (by walk_at "sub")
                  · (walk_at "a3cf0dcf0"; walk_at "a4584bbba"; walk_at "a668f72f2"; walk_at "a2c441c41"; walk_at "a33f2f4b5"; walk_at "ae1f83bb8"; walk_at "ad25b13d2"; walk_at "afef05d44"; walk_at "a6ebb81e6"; walk_at "a2c441c41"; walk_at "ad25b13d2"; walk_at "ad15d6c32"; walk_at "a470d4ce9"; walk_at "a3d0fbaf8"; walk_at "a8a699a1b")
                    refine zif_d (fun q4 => ?_) (fun q4 => ?_)
                    · obtain ⟨m1, m2⟩ := n2 (by omega)
                      rw [m1, List.take_length] at n1
                      have hz : goes (114 :: b :: r) = 1 := by
                        rw [hgoes]
                        exact goesR_one (by omega) m2
                      rw [hz] at k
                      (walk_at "ac39ddb8c"; walk_at "ad15d6c32"; walk_at "a8f7cfc14")
                      exact k _ (by walk_at "sub")
                    · obtain ⟨m1, m2⟩ := n3 (by omega)
                      have e9 : ((k0 + 2 : Nat) : Int) + 2 * (j : Nat) + 1 = ((k0 + 2 * j + 1 + 2 : Nat) : Int) := by omega
                      (walk_at "a3cf0dcf0"; walk_at "a7f6d4dcc"; walk_at "a2c441c41"; walk_at "a2c441c41"; walk_at "ad25b13d2"; walk_at "a2c441c41"; walk_at "ad15d6c32"; walk_at "ad25b13d2"; walk_at "a7bf746b0"; walk_at "a470d4ce9"; walk_at "ad15d6c32"; walk_at "a470d4ce9"; walk_at "a3d76496c"; walk_at "a28557e3a")
                      rw [e9]
                      exact less_ (r.length - (k0 + 2 * j + 1)) (by omega) ⟨k0 + 2 * j + 1, A + v, _, _, _, rfl, rfl, m2, m1, by omega, by walk_at "sub"⟩
                · have hf0 : fs.length = 0 := by rw [q1]; rfl
                  have hl1 : ([49] : List Nat).length = 1 := rfl
                  have hFB : Bits [49] := fun c hc => .inr (List.mem_singleton.mp hc)
                  have hVV : bv [49] * 2 ^ (j + 1 - ([49] : List Nat).length) = v := by
                    rw [hv, if_pos q1, hl1, Nat.add_sub_cancel]
                    exact Nat.one_mul _
                  have hrep : rep [48] (((j : Nat) : Int) + 1 - ((([49] : List Nat).length : Nat) : Int)).toNat = List.replicate (j + 1 - ([49] : List Nat).length) 48 := by
                    rw [rep_zeros]; congr 1; omega
                  have hbits : Bits ([49] ++ rep [48] (((j : Nat) : Int) + 1 - ((([49] : List Nat).length : Nat) : Int)).toNat) := by
                    rw [hrep]
                    intro c hc
                    rcases List.mem_append.mp hc with z | z
                    · exact hFB c z
                    · exact .inl (List.eq_of_mem_replicate z)
                  have hlen9 : ([49] ++ rep [48] (((j : Nat) : Int) + 1 - ((([49] : List Nat).length : Nat) : Int)).toNat).length = j + 1 := by
                    rw [hrep, List.length_append, List.length_replicate]; omega
                  have hne9 : [49] ++ rep [48] (((j : Nat) : Int) + 1 - ((([49] : List Nat).length : Nat) : Int)).toNat ≠ [] := fun e => by
                    rw [e] at hlen9; cases hlen9
                  have hrl9 : (rep [48] (((j : Nat) : Int) + 1 - ((([49] : List Nat).length : Nat) : Int)).toNat).length ≤ 600 := by rw [hrep, List.length_replicate]; omega
                  have hbv : bv ([49] ++ rep [48] (((j : Nat) : Int) + 1 - ((([49] : List Nat).length : Nat) : Int)).toNat) = v := by rw [hrep, bv_zeros, hVV]
                  (walk_at "ad15d6c32"; walk_at "a3d76496c"; walk_at "a85c4f338"; walk_at "a2c441c41"; walk_at "ad25b13d2"; walk_at "a33f2f4b5"; walk_at "ae1f83bb8"; walk_at "a2c441c41"; walk_at "ad25b13d2"; walk_at "a2c441c41"; walk_at "ad15d6c32"; walk_at "a2c441c41"; walk_at "a2c441c41"; walk_at "ad25b13d2"; walk_at "ad15d6c32"; walk_at "a470d4ce9"; walk_at "a33f2f4b5"; walk_at "ae1f83bb8"; walk_at "ad25b13d2"; walk_at "afef05d44"; walk_at "a6ebb81e6"; walk_at "a8c4e17e3"; walk_at "a1d30e24a"; walk_at "a4e0c8928"; walk_at "ae1f83bb8"; walk_at "ad15d6c32"; walk_at "afef05d44"; walk_at "a77250c20"; walk_at "a470d4ce9"; walk_at "a3d76496c"; walk_at "a4584bbba"; walk_at "a668f72f2"; walk_at "a2c441c41"; walk_at "ad25b13d2"; walk_at "ad15d6c32"; walk_at "a2251479c"; walk_at "a8a699a1b")
                  rw [hbv]
                  refine zif_d (fun q3 => ?_) (fun q3 => ?_)
                  · have hz : goes (114 :: b :: r) = 0 := by
                      rw [hgoes]
                      refine goesR_zero ?_
                      have := least_take r (k0 + j + fs.length)
                      omega
                    rw [hz] at k
                    (walk_at "ac39ddb8c"; walk_at "ad15d6c32"; walk_at "a8f7cfc14")
                    exact k _ (by walk_at "sub")
                  · obtain ⟨m1, m2⟩ := n2 (by omega)
                    rw [m1, List.take_length] at n1
                    have hz : goes (114 :: b :: r) = 1 := by
                      rw [hgoes]
                      exact goesR_one (by omega) m2
                    rw [hz] at k
                    (walk_at "a3cf0dcf0"; walk_at "a4584bbba"; walk_at "a668f72f2"; walk_at "a2c441c41"; walk_at "a33f2f4b5"; walk_at "ae1f83bb8"; walk_at "ad25b13d2"; walk_at "afef05d44"; walk_at "a6ebb81e6"; walk_at "a2c441c41"; walk_at "ad25b13d2"; walk_at "ad15d6c32"; walk_at "a470d4ce9"; walk_at "a3d0fbaf8"; walk_at "a8a699a1b"; walk_at "a1699f3be"; walk_at "ac39ddb8c"; walk_at "ad15d6c32"; walk_at "a8f7cfc14")
                    exact k _ (by walk_at "sub")
              · have hkr : k0 = r.length := by omega
                rw [hkr, List.take_length] at hc
                have hge : goes (114 :: b :: r) = if r = [] then 1 else 2 := by
                  rw [hg]
                  unfold goesR
                  rw [hc, if_neg (show ¬ 64 < (Cs.num A 0).least from Nat.not_lt.mpr hA)]
                  rfl
                have a6 : atI [V.int 1, V.int 2] (if decide (2 < ((114 :: b :: r).length : Int)) = true then 1 else 0) = some (.int (goes (114 :: b :: r) : Nat)) := by
                  rw [hge]
                  by_cases q2 : r = []
                  · subst q2; rfl
                  · have := List.length_pos_iff.mpr q2
                    rw [if_neg q2, if_pos (decide_eq_true (show 2 < ((114 :: b :: r).length : Int) by omega))]
                    rfl
                (walk_at "ac39ddb8c"; walk_at "a2c441c41"; walk_at "afaa010ed"; walk_at "ae1f83bb8"; walk_at "ad15d6c32"; walk_at "ae1f83bb8"; walk_at "ad15d6c32"; walk_at "afef05d44"; walk_at "a5a35570c"; walk_at "a33f2f4b5"; walk_at "ae1f83bb8"; walk_at "a2c441c41"; walk_at "a33f2f4b5"; walk_at "ae1f83bb8"; walk_at "ad25b13d2"; walk_at "afef05d44"; walk_at "a6ebb81e6"; walk_at "ad15d6c32"; walk_at "a2251479c"; walk_at "afef05d44"; walk_at "a66292a6d"; walk_at "a5c5685b7"; walk_at "a8f7cfc14")
                exact k _ (by walk_at "sub")
        · rw [all_inF hb]
          have hg : goes (c :: r0) = 0 := goes_bad hb
          rw [hg] at k
          have hnn : ¬ c :: r0 = [] := by simp
          (walk_at "a8a699a1b"; walk_at "a64b801b7"; walk_at "ac39ddb8c"; walk_at "a33f2f4b5"; walk_at "ae1f83bb8"; walk_at "a2c441c41"; walk_at "ad25b13d2"; walk_at "ad15d6c32"; walk_at "ae5260597"; walk_at "afef05d44"; walk_at "a66292a6d"; walk_at "a8f7cfc14")
          exact k _ (by walk_at "sub")
    · refine niLt_ (s1.at_ .head) rfl rfl (by rw [in_pr, decide_eq_false hh]) ?_
      have hg : goes (c :: r0) = 0 := goes_other (fun z => hh (.inl z)) (fun z => hh (.inr z))
      rw [hg] at k
      have hnn : ¬ c :: r0 = [] := by simp
      (walk_at "a8a699a1b"; walk_at "ad16059ae"; walk_at "a259846d4"; walk_at "ac39ddb8c"; walk_at "a33f2f4b5"; walk_at "ae1f83bb8"; walk_at "a2c441c41"; walk_at "ad25b13d2"; walk_at "ad15d6c32"; walk_at "ae5260597"; walk_at "afef05d44"; walk_at "a66292a6d"; walk_at "a8f7cfc14")
      exact k _ (by walk_at "sub")
end
section
variable {P : Program} {w : World} {K : PySem.W.Frag} {mg : Str → Option Value} {base : Heap} {C_CountError C_NoCode C_NoBits C_NoTree C_NoPage C_NoWord C_NoTurned C_NoStretch C_NoRow C_NoPlace C_NoNode C_NoLetter C_NoDeed C_Full C_Torn C_Busy : Addr}
set_option maxHeartbeats 4000000 in
theorem ok_law_block_of {f : Addr} {fd : FuncData} {dV kV : Value} (g : G mg)
    (F : Txt K "_law_block_of" "_law_block_of" (defArgs st_law_block_of) (defBody st_law_block_of) (defScope st_law_block_of) dV kV f fd) :
    FnG P w K mg base 1 f fd ["_law_row_text"] (sp_law_block_of) := by
  refine z_fn F sc_law_block_of (fun vs H Q E h => by
    obtain ⟨l, L, rfl, s, hl, ok, k⟩ := h
    rfl) (fun cd A outer s H vs Q E hr ng h => ?_)
  obtain ⟨l, L, rfl, s, hl, ok, k⟩ := h
  refine ⟨_, [_, none, none, none, none, none], rfl, (pss_cons (ps_if (pt_cmpR (k_eq (K := K) hr.units) (pe_ix (k_ix (K := K)) (pv 0) pe_int (fun _ _ => rfl)) (z_str lit_32) (nomark _)) (pss_one (ps_ret (pe_slice (k_sl (K := K)) (pv 0) (po_some pe_int) po_none))) pss_nil)
      (pss_cons (ps_par3 (i := 1) (j := 2) (l := 3) (by rfl) sc_law_block_of.nd rfl rfl rfl (by decide) (by decide) (by decide) rfl rfl rfl (pa_cons (z_str lit_10) (pa_cons (pe_callTy z_int_of (by rfl) g.b_int bt_int (pa_cons (pe_ix (k_ix (K := K)) (pv 0) pe_int (fun _ _ => rfl)) pa_nil)) (pa_cons pe_int pa_nil))) (by rfl))
      (pss_cons (ps_while (passes_of rfl) (pt_cmpR z_lt (pv 3) (pe_callB (k_len (K := K)) (by rfl) g.b_len bt_len (pa_cons (pv 0) pa_nil)) (nomark _)) (pss_cons (ps_set (i := 4) sc_law_block_of.nd rfl (Or.inl rfl) (pe_op z_sub (pe_callB (k_len (K := K)) (by rfl) g.b_len bt_len (pa_cons (pe_slice (k_sl (K := K)) (pv 0) (po_some (pv 3)) po_none) pa_nil)) (pe_callB (k_len (K := K)) (by rfl) g.b_len bt_len (pa_cons (z_lstrip (pe_slice (k_sl (K := K)) (pv 0) (po_some (pv 3)) po_none) (z_str lit_12)) pa_nil))))
      (pss_cons (ps_set (i := 5) sc_law_block_of.nd rfl (Or.inl rfl) (pe_slice (k_sl (K := K)) (pv 0) (po_some (pe_op (k_add (K := K)) (pv 3) (pv 4))) (po_some (pe_op (k_add (K := K)) (pe_op (k_add (K := K)) (pv 3) (pe_op z_mul pe_int (pv 4))) pe_int))))
      (pss_cons (ps_set (i := 1) sc_law_block_of.nd rfl (Or.inl rfl) (pe_op (k_add (K := K)) (pv 1) (pe_op z_mul (pe_callTy z_strZ (by rfl) g.b_str bt_str (pa_cons (pv 2) pa_nil)) (pe_callTy k_intBit (by rfl) g.b_int bt_int (pa_cons (pv 5) (pa_cons pe_int pa_nil))))))
      (pss_one (ps_par (i := 2) (j := 3) (by rfl) sc_law_block_of.nd rfl rfl (by decide) rfl rfl (pa_cons (pe_op z_sub pe_int (pv 2)) (pa_cons (pe_op (k_add (K := K)) (pe_op (k_add (K := K)) (pv 3) (pe_op z_mul pe_int (pv 4))) pe_int) pa_nil)) (by rfl)))))))
      (pss_one (ps_ret (pv 1)))))), ?_⟩
  rcases ok.cases with ⟨x, rfl, hb, ne, hx⟩ | ⟨b, r, B, rfl, hb, hbr, ne, hB, he⟩
  · have hat : atI (112 :: x) 0 = some 112 := atI_nat (j := 0) rfl
    have hcut : cut (112 :: x) (some 1) none = x := by rw [cut_from _ _ (by omega)]; rfl
    (walk_at "a4584bbba"; walk_at "a668f72f2"; walk_at "a2c441c41"; walk_at "a2c441c41"; walk_at "ad25b13d2"; walk_at "ad15d6c32"; walk_at "a4657a1b3"; walk_at "ad15d6c32"; walk_at "a603f4d20"; walk_at "a8a699a1b"; walk_at "a259846d4"; walk_at "ac39ddb8c"; walk_at "a1e0e6469"; walk_at "ad25b13d2"; walk_at "a0ebae3b6"; walk_at "ad15d6c32"; walk_at "a6a11b937"; walk_at "a67128e29"; walk_at "a55f8cc73"; walk_at "a8f7cfc14")
    rw [hcut]
    exact k _ s
  · have hat : atI (114 :: b :: r) 0 = some 114 := atI_nat (j := 0) rfl
    have hat1 : atI (114 :: b :: r) 1 = some b := atI_nat (j := 1) rfl
    have htl : (114 :: b :: r).length = r.length + 2 := rfl
    have htl2 : r.length ≤ 598 := by omega
    have hee : ((b : Nat) : Int) - 48 = (if b = 48 then 0 else 1) := by rcases hb with rfl | rfl <;> rfl
    (walk_at "a4584bbba"; walk_at "a668f72f2"; walk_at "a2c441c41"; walk_at "a2c441c41"; walk_at "ad25b13d2"; walk_at "ad15d6c32"; walk_at "a4657a1b3"; walk_at "ad15d6c32"; walk_at "ae5260597"; walk_at "a8a699a1b"; walk_at "a1fcbcf3e"; walk_at "a3cf0dcf0"; walk_at "abe7a5488"; walk_at "ae1f83bb8"; walk_at "ad15d6c32"; walk_at "ae1f83bb8"; walk_at "a33f2f4b5"; walk_at "ae1f83bb8"; walk_at "a2c441c41"; walk_at "ad25b13d2"; walk_at "ad15d6c32"; walk_at "a4657a1b3"; walk_at "afef05d44"; walk_at "a59380daa"; walk_at "ae1f83bb8"; walk_at "ad15d6c32"; walk_at "afef05d44"; walk_at "a75238d54"; walk_at "a3d76496c"; walk_at "a8253931e")
    rw [hee]
    refine seq_while (fun m σ H' => ∃ (k0 A f b' : Nat) (fd : List Nat) (v4 v5 : Option V), σ = [some (T (114 :: b :: r)), some (T fd), some (.int (if b' = 48 then 0 else 1)), some (.int ((k0 + 2 : Nat) : Int)), v4, v5] ∧ m = r.length - k0 ∧ k0 ≤ r.length ∧ (b' = 48 ∨ b' = 49) ∧ crun (r.take k0) = .num A 0 ∧ A ≤ 64 ∧ fd.length = A ∧ r.length - k0 ≤ f ∧ fd ++ dec f b' (r.drop k0) = dec r.length b r ∧ S L H') r.length ⟨0, 0, r.length, b, [], none, none, rfl, rfl, Nat.zero_le _, hb, rfl, by omega, rfl, Nat.le_refl _, rfl, by assumption⟩ ?_
    rintro m σ H5 ⟨k0, A, f, b', fd, v4, v5, rfl, rfl, hk, hb', hc, hA, hfl, hf, hdec, s5⟩
    clear s
    have hcA : cut (114 :: b :: r) (some ((k0 + 2 : Nat) : Int)) none = r.drop k0 := by rw [cut_from _ _ (by omega), Int.toNat_natCast]; rfl
    (walk_at "a668f72f2"; walk_at "a2c441c41"; walk_at "ad25b13d2"; walk_at "a33f2f4b5"; walk_at "ae1f83bb8"; walk_at "ad25b13d2"; walk_at "afef05d44"; walk_at "a6ebb81e6"; walk_at "a3d0fbaf8"; walk_at "a8a699a1b")
    refine zwh_d (fun q => ?_) (fun q => ?_)
    · have hk2 : k0 < r.length := by omega
      have hln := nz_le (r.drop k0)
      have hRl : (r.drop k0).length = r.length - k0 := List.length_drop
      have hRl2 : ((r.drop k0).drop (nz (r.drop k0))).length = r.length - k0 - nz (r.drop k0) := by rw [List.length_drop, hRl]
      obtain ⟨j, hj⟩ : ∃ j, j = nz (r.drop k0) := ⟨_, rfl⟩
      rw [← hj] at hRl2 hln
      have ej : (((r.drop k0).length : Nat) : Int) - ((((r.drop k0).drop j).length : Nat) : Int) = ((j : Nat) : Int) := by omega
      have hcB : cut (114 :: b :: r) (some (((k0 + 2 : Nat) : Int) + (j : Nat))) (some (((k0 + 2 : Nat) : Int) + 2 * (j : Nat) + 1)) = (r.drop (k0 + j)).take (j + 1) := by
        rw [cut_mid _ _ _ (by omega) (by omega), show (((k0 + 2 : Nat) : Int) + (j : Nat)).toNat = k0 + j + 2 by omega, show (((k0 + 2 : Nat) : Int) + 2 * (j : Nat) + 1 - (((k0 + 2 : Nat) : Int) + (j : Nat))).toNat = j + 1 by omega]
        rfl
      obtain ⟨fs, hfs⟩ : ∃ fs, fs = (r.drop (k0 + j)).take (j + 1) := ⟨_, rfl⟩
      rw [← hfs] at hcB
      obtain ⟨v, hv⟩ : ∃ v, v = if fs = [] then 2 ^ j else bv fs * 2 ^ (j + 1 - fs.length) := ⟨_, rfl⟩
      have rk : Reck r A k0 j fs v := ⟨hj, hfs, hv⟩
      obtain ⟨n1, n2, n3, n4, n5, n6⟩ := rk.whole hbr hk2 hc he hB
      have hfb : Bits fs := by rw [hfs]; exact fun c hc => hbr c (List.mem_of_mem_drop (List.mem_of_mem_take hc))
      have hv64 : bv fs ≤ 64 := by omega
      obtain ⟨f, rfl⟩ : ∃ f', f = f' + 1 := ⟨f - 1, by omega⟩
      rw [rk.dec hk2, ← List.append_assoc] at hdec
      (walk_at "a85c4f338"; walk_at "a2c441c41"; walk_at "a33f2f4b5"; walk_at "ae1f83bb8"; walk_at "a1e0e6469"; walk_at "ad25b13d2"; walk_at "a0ebae3b6"; walk_at "ad25b13d2"; walk_at "a6a11b937"; walk_at "a67128e29"; walk_at "a55f8cc73"; walk_at "afef05d44")
      rw [hcA]
      (walk_at "a6ebb81e6"; walk_at "a33f2f4b5"; walk_at "ae1f83bb8"; walk_at "af6af6ffb"; walk_at "a1e0e6469"; walk_at "ad25b13d2"; walk_at "a0ebae3b6"; walk_at "ad25b13d2"; walk_at "a6a11b937"; walk_at "a67128e29"; walk_at "a55f8cc73"; walk_at "a90efc992"; walk_at "ad15d6c32")
      rw [hcA]
      (walk_at "a53594ee3"; walk_at "afef05d44")
      rw [← hj]
      (walk_at "a6ebb81e6"; walk_at "a8c4e17e3"; walk_at "a3d76496c"; walk_at "a85c4f338"; walk_at "a1e0e6469"; walk_at "ad25b13d2"; walk_at "a0ebae3b6"; walk_at "a2c441c41"; walk_at "ad25b13d2"; walk_at "ad25b13d2"; walk_at "a470d4ce9"; walk_at "a6a11b937"; walk_at "a0ebae3b6"; walk_at "a2c441c41"; walk_at "a2c441c41"; walk_at "ad25b13d2"; walk_at "a2c441c41"; walk_at "ad15d6c32"; walk_at "ad25b13d2"; walk_at "a7bf746b0"; walk_at "a470d4ce9"; walk_at "ad15d6c32"; walk_at "a470d4ce9"; walk_at "a6a11b937"; walk_at "a55f8cc73"; walk_at "a3d76496c"; walk_at "a85c4f338"; walk_at "a2c441c41"; walk_at "ad25b13d2"; walk_at "a2c441c41"; walk_at "a33f2f4b5"; walk_at "ae1f83bb8"; walk_at "ad25b13d2"; walk_at "afef05d44"; walk_at "ad0a676ba"; walk_at "a33f2f4b5"; walk_at "ae1f83bb8"; walk_at "ad25b13d2"; walk_at "ae1f83bb8"; walk_at "ad15d6c32"; walk_at "afef05d44")
      rw [ej]
      skip
      rw [hcB]
      (walk_at "a77250c20")
      have ei : intL (if b' = 48 then 0 else 1) = [b'] := by rcases hb' with rfl | rfl <;> decide +kernel
      have e3 : (1 : Int) - (if b' = 48 then 0 else 1) = (if oBit b' = 48 then 0 else 1) := by rcases hb' with rfl | rfl <;> decide
      have hob : oBit b' = 48 ∨ oBit b' = 49 := by rcases hb' with rfl | rfl <;> decide
      have hrep : rep [b'] ((bv fs : Nat) : Int).toNat = List.replicate (bv fs) b' := by rw [Int.toNat_natCast, rep_one]
      have hrl : (rep [b'] ((bv fs : Nat) : Int).toNat).length ≤ 64 := by rw [hrep, List.length_replicate]; exact hv64
      have e9 : ((k0 + 2 : Nat) : Int) + 2 * (j : Nat) + 1 = ((k0 + 2 * j + 1 + 2 : Nat) : Int) := by omega
      have hfd2 : (fd ++ List.replicate (bv fs) b').length = A + v := by rw [List.length_append, List.length_replicate, hfl, n3]
      rw [ei]
      (walk_at "a1d30e24a"; walk_at "a4e0c8928"; walk_at "a3d76496c"; walk_at "a079f5f75"; walk_at "ae1f83bb8"; walk_at "a2c441c41"; walk_at "ad15d6c32"; walk_at "ad25b13d2"; walk_at "a8c4e17e3"; walk_at "ae1f83bb8"; walk_at "a2c441c41"; walk_at "a2c441c41"; walk_at "ad25b13d2"; walk_at "a2c441c41"; walk_at "ad15d6c32"; walk_at "ad25b13d2"; walk_at "a7bf746b0"; walk_at "a470d4ce9"; walk_at "ad15d6c32"; walk_at "a470d4ce9"; walk_at "afef05d44"; walk_at "a843fc401"; walk_at "a3d76496c"; walk_at "a28557e3a")
      rw [hrep, e3, e9]
      exact less_ (r.length - (k0 + 2 * j + 1)) (by omega) ⟨k0 + 2 * j + 1, A + v, f, oBit b', fd ++ List.replicate (bv fs) b', _, _, rfl, rfl, n5, hob, n6, n4, hfd2, by omega, hdec, by assumption⟩
    · have hkr : k0 = r.length := by omega
      have hd0 : r.drop k0 = [] := by rw [hkr]; exact List.drop_length
      rw [hd0, dec_nil, List.append_nil] at hdec
      subst hdec
      (walk_at "ac39ddb8c"; walk_at "ad25b13d2"; walk_at "a8f7cfc14")
      exact k _ (by assumption)
end
section
variable {P : Program} {w : World} {K : PySem.W.Frag} {mg : Str → Option Value} {base : Heap} {C_CountError C_NoCode C_NoBits C_NoTree C_NoPage C_NoWord C_NoTurned C_NoStretch C_NoRow C_NoPlace C_NoNode C_NoLetter C_NoDeed C_Full C_Torn C_Busy : Addr}
set_option maxHeartbeats 4000000 in
theorem ok_law_code_due {f : Addr} {fd : FuncData} {dV kV : Value} (g : G mg)
    (F : Txt K "_law_code_due" "_law_code_due" (defArgs st_law_code_due) (defBody st_law_code_due) (defScope st_law_code_due) dV kV f fd)
    (D_law_goes_on : Def P w K mg base 1 "_law_goes_on" [] (sp_law_goes_on))
    (D_law_block_of : Def P w K mg base 1 "_law_block_of" [] (sp_law_block_of)) :
    FnG P w K mg base 2 f fd ["_law_thing"] (sp_law_code_due) := by
  refine z_fn F sc_law_code_due (fun vs H Q E h => by
    obtain ⟨v, L, rfl, s, h⟩ := h
    rfl) (fun cd A outer s H vs Q E hr ng h => ?_)
  obtain ⟨v, L, rfl, s, h⟩ := h
  refine ⟨_, [_, none], rfl, (pss_cons (ps_if (pt_not (pt_val (pe_callB (k_isi (K := K)) (by rfl) g.b_isinstance bt_isinstance (pa_cons (pv 0) (pa_cons (pe_bltn (v := .ty "str") (by rfl) g.b_str bt_str rfl) pa_nil))))) (pss_one (ps_ret (pe_tup (pa_cons (z_str lit_28) (pa_cons pe_non pa_nil))))) pss_nil)
      (pss_cons (ps_for (passes_of rfl) rfl (pi_range1 (by rfl) g.b_range (pa_cons (pe_callB (k_len (K := K)) (by rfl) g.b_len bt_len (pa_cons (pv 0) pa_nil)) pa_nil)) (pg_name (i := 1) sc_law_code_due.nd rfl (Or.inl rfl)) (pss_one (ps_if (pt_cmpR (k_eq (K := K) hr.units) (pe_f D_law_goes_on (hr.mono (by decide)) ng (by rfl) (tkW (takes_ rfl rfl rfl rfl)) (pa_cons (pe_slice (k_sl (K := K)) (pv 0) po_none (po_some (pe_op (k_add (K := K)) (pv 1) pe_int))) pa_nil)) pe_int (nomark _)) (pss_one (ps_ret (pe_tup (pa_cons (z_str lit_28) (pa_cons (pv 1) pa_nil))))) pss_nil)))
      (pss_cons (ps_if (pt_cmpR (k_ne (K := K) hr.units) (pe_f D_law_goes_on (hr.mono (by decide)) ng (by rfl) (tkW (takes_ rfl rfl rfl rfl)) (pa_cons (pv 0) pa_nil)) pe_int (nomark _)) (pss_one (ps_ret (pe_tup (pa_cons (z_str lit_28) (pa_cons (pe_callB (k_len (K := K)) (by rfl) g.b_len bt_len (pa_cons (pv 0) pa_nil)) pa_nil))))) pss_nil)
      (pss_one (ps_ret (pe_tup (pa_cons (z_str lit_29) (pa_cons (pe_f D_law_block_of (hr.mono (by decide)) ng (by rfl) (tkW (takes_ rfl rfl rfl rfl)) (pa_cons (pv 0) pa_nil)) pa_nil)))))))), ?_⟩
  rcases h with ⟨x, rfl, hl, k1, k2⟩ | ⟨ho, ko⟩
  · (walk_at "a4584bbba"; walk_at "a35e1d11b"; walk_at "a5ca36a29"; walk_at "a33f2f4b5"; walk_at "ae1f83bb8"; walk_at "ad25b13d2"; walk_at "ae1f83bb8"; walk_at "ad15d6c32"; walk_at "afef05d44"; walk_at "af08ba47b"; walk_at "a8a699a1b"; walk_at "a539a4fa3"; walk_at "a3cf0dcf0"; walk_at "a1fccfa88"; walk_at "a667a4238"; walk_at "ae1f83bb8"; walk_at "a33f2f4b5"; walk_at "ae1f83bb8"; walk_at "ad25b13d2"; walk_at "afef05d44"; walk_at "a6ebb81e6"; walk_at "afef05d44"; walk_at "a02753dc7")
    rw [Int.toNat_natCast]
    refine forR (fun i σ H' => ∃ v : Option V, σ = [some (T x), v] ∧ (∀ q, q < i → goes (x.take (q + 1)) ≠ 0) ∧ S L H') ⟨none, rfl, fun q hq => absurd hq (by omega), s⟩ ?_ ?_
    · rintro i σ H1 hi ⟨v, rfl, hno, s1⟩
      clear s
      have hcut : cut x none (some (0 + (i : Int) + 1)) = x.take (i + 1) := by rw [cut_to _ _ (by omega)]; congr 1; omega
      have htl : (x.take (i + 1)).length ≤ 600 := by rw [List.length_take]; omega
      (walk_at "a3d76496c"; walk_at "ae44f4543"; walk_at "a668f72f2"; walk_at "a2c441c41"; walk_at "acdbb3963"; walk_at "ae1f83bb8"; walk_at "a1e0e6469"; walk_at "ad25b13d2"; walk_at "a67128e29"; walk_at "a0ebae3b6"; walk_at "a2c441c41"; walk_at "ad25b13d2"; walk_at "ad15d6c32"; walk_at "a470d4ce9"; walk_at "a6a11b937"; walk_at "a55f8cc73"; walk_at "afef05d44")
      rw [hcut]
      (walk_at "a816bcb1a"; walk_at "ad15d6c32"; walk_at "ab84a1bc3"; walk_at "a8a699a1b")
      refine zif_d (fun q => ?_) (fun q => ?_)
      · have ce : CodeErr x i := ⟨by omega, hno, .inl ⟨by omega, by omega⟩⟩
        (walk_at "ac39ddb8c"; walk_at "ab6f4d09a"; walk_at "ae1f83bb8"; walk_at "ad15d6c32"; walk_at "ae1f83bb8"; walk_at "ad25b13d2"; walk_at "afef05d44"; walk_at "a1d9c2e1b"; walk_at "a8f7cfc14")
        rename_i p H2 s2
        rw [Int.zero_add] at s2
        exact k1 i ce _ _ s2
      · (walk_at "a3cf0dcf0"; walk_at "a28557e3a")
        refine ⟨_, rfl, fun q2 hq2 => ?_, by assumption⟩
        rcases Nat.lt_or_ge q2 i with z | z
        · exact hno q2 z
        · rw [show q2 = i by omega]; omega
    · rintro σ H1 ⟨v, rfl, hno, s1⟩
      clear s
      (walk_at "a4584bbba"; walk_at "a668f72f2"; walk_at "a2c441c41"; walk_at "acdbb3963"; walk_at "ae1f83bb8"; walk_at "ad25b13d2"; walk_at "afef05d44"; walk_at "a816bcb1a"; walk_at "ad15d6c32"; walk_at "a0631d19f"; walk_at "a8a699a1b")
      refine zif_n (fun q => ?_) (fun q => ?_)
      · have ce : CodeErr x x.length := ⟨Nat.le_refl _, hno, .inr ⟨rfl, by omega⟩⟩
        (walk_at "ac39ddb8c"; walk_at "ab6f4d09a"; walk_at "ae1f83bb8"; walk_at "ad15d6c32"; walk_at "ae1f83bb8"; walk_at "a33f2f4b5"; walk_at "ae1f83bb8"; walk_at "ad25b13d2"; walk_at "afef05d44"; walk_at "a6ebb81e6"; walk_at "afef05d44"; walk_at "a1d9c2e1b"; walk_at "a8f7cfc14")
        rename_i p H2 s2
        exact k1 _ ce _ _ s2
      · have ok : CodeOk x := ⟨hno, by omega⟩
        (walk_at "a3cf0dcf0"; walk_at "ac39ddb8c"; walk_at "ab6f4d09a"; walk_at "ae1f83bb8"; walk_at "ad15d6c32"; walk_at "ae1f83bb8"; walk_at "acdbb3963"; walk_at "ae1f83bb8"; walk_at "ad25b13d2"; walk_at "afef05d44"; walk_at "a94375942"; walk_at "afef05d44"; walk_at "a1d9c2e1b"; walk_at "a8f7cfc14")
        rename_i p H2 s2
        exact k2 ok _ _ s2
  · (walk_at "a4584bbba"; walk_at "a35e1d11b"; walk_at "a5ca36a29"; walk_at "a33f2f4b5"; walk_at "ae1f83bb8"; walk_at "ad25b13d2"; walk_at "ae1f83bb8"; walk_at "ad15d6c32"; walk_at "afef05d44")
    refine isStrO_ ho ?_
    (walk_at "a8a699a1b"; walk_at "a64b801b7"; walk_at "ac39ddb8c"; walk_at "ab6f4d09a"; walk_at "ae1f83bb8"; walk_at "ad15d6c32"; walk_at "ae1f83bb8"; walk_at "ad15d6c32"; walk_at "afef05d44"; walk_at "a1d9c2e1b"; walk_at "a8f7cfc14")
    rename_i p H2 s2
    exact ko _ _ s2
end
section
variable {P : Program} {w : World} {K : PySem.W.Frag} {mg : Str → Option Value} {base : Heap} {C_CountError C_NoCode C_NoBits C_NoTree C_NoPage C_NoWord C_NoTurned C_NoStretch C_NoRow C_NoPlace C_NoNode C_NoLetter C_NoDeed C_Full C_Torn C_Busy : Addr}
set_option maxHeartbeats 4000000 in
theorem ok_law_which {f : Addr} {fd : FuncData} {dV kV : Value} (g : G mg)
    (F : Txt K "_law_which" "_law_which" (defArgs st_law_which) (defBody st_law_which) (defScope st_law_which) dV kV f fd)
    (gl_Busy : mg "Busy" = some (.ref C_Busy))
    (gl_CountError : mg "CountError" = some (.ref C_CountError))
    (gl_Full : mg "Full" = some (.ref C_Full))
    (gl_NoBits : mg "NoBits" = some (.ref C_NoBits))
    (gl_NoCode : mg "NoCode" = some (.ref C_NoCode))
    (gl_NoDeed : mg "NoDeed" = some (.ref C_NoDeed))
    (gl_NoLetter : mg "NoLetter" = some (.ref C_NoLetter))
    (gl_NoNode : mg "NoNode" = some (.ref C_NoNode))
    (gl_NoPage : mg "NoPage" = some (.ref C_NoPage))
    (gl_NoPlace : mg "NoPlace" = some (.ref C_NoPlace))
    (gl_NoRow : mg "NoRow" = some (.ref C_NoRow))
    (gl_NoStretch : mg "NoStretch" = some (.ref C_NoStretch))
    (gl_NoTree : mg "NoTree" = some (.ref C_NoTree))
    (gl_NoTurned : mg "NoTurned" = some (.ref C_NoTurned))
    (gl_NoWord : mg "NoWord" = some (.ref C_NoWord))
    (gl_Torn : mg "Torn" = some (.ref C_Torn))
    (rk0 : refB K (refs C_NoCode C_CountError C_NoBits C_NoTree C_NoPage C_NoWord C_NoTurned C_NoStretch C_NoRow C_NoPlace C_NoNode C_NoLetter C_NoDeed C_Full C_Torn C_Busy) (.type "ValueError") (.ref C_CountError) = true) :
    FnW P w K mg base 1 f fd ["_law_e"] (spWhich (refs C_NoCode C_CountError C_NoBits C_NoTree C_NoPage C_NoWord C_NoTurned C_NoStretch C_NoRow C_NoPlace C_NoNode C_NoLetter C_NoDeed C_Full C_Torn C_Busy)) := by
  refine w_fn F sc_law_which (fun p vs H Q E h => by
    obtain ⟨a, oe⟩ := p
    obtain ⟨i, r, d, hv, hi, hz, hf, hb, k⟩ := h
    obtain rfl : vs = [.ref a] := hv
    have rk := refB_ok rk0 hi
    rfl) (fun cd A outer s H vs Q E p hr hot h => ?_)
  obtain ⟨a, oe⟩ := p
  obtain ⟨i, r, d, hv, hi, hz, hf, hb, k⟩ := h
  obtain rfl : vs = [.ref a] := hv
  have rk := refB_ok rk0 hi
  refine ⟨_, [_, none, none, none, none, none, none], rfl, (pss_cons (ps_set (i := 1) sc_law_which.nd rfl (Or.inl rfl) (pe_lst (pa_cons (pe_tup (pa_cons (z_str lit_28) (pa_cons (pe_callB (kh_isi (K := K) rk.exc (.head _) hz hf) (by rfl) g.b_isinstance bt_isinstance (pa_cons (pv 0) (pa_cons (pe_glob (v := .ref C_NoCode) (by rfl) gl_NoCode rfl) pa_nil))) (pa_cons (pe_callB (kh_isi (K := K) rk.exc (.head _) hz hf) (by rfl) g.b_isinstance bt_isinstance (pa_cons (pv 0) (pa_cons (pe_glob (v := .ref C_CountError) (by rfl) gl_CountError rfl) pa_nil))) pa_nil)))) (pa_cons (pe_tup (pa_cons (z_str lit_27) (pa_cons (pe_callB (kh_isi (K := K) rk.exc (.head _) hz hf) (by rfl) g.b_isinstance bt_isinstance (pa_cons (pv 0) (pa_cons (pe_glob (v := .ref C_NoBits) (by rfl) gl_NoBits rfl) pa_nil))) (pa_cons (pe_callB (kh_isi (K := K) rk.exc (.head _) hz hf) (by rfl) g.b_isinstance bt_isinstance (pa_cons (pv 0) (pa_cons (pe_glob (v := .ref C_CountError) (by rfl) gl_CountError rfl) pa_nil))) pa_nil)))) (pa_cons (pe_tup (pa_cons (z_str lit_26) (pa_cons (pe_callB (kh_isi (K := K) rk.exc (.head _) hz hf) (by rfl) g.b_isinstance bt_isinstance (pa_cons (pv 0) (pa_cons (pe_glob (v := .ref C_NoTree) (by rfl) gl_NoTree rfl) pa_nil))) (pa_cons (pe_callB (kh_isi (K := K) rk.exc (.head _) hz hf) (by rfl) g.b_isinstance bt_isinstance (pa_cons (pv 0) (pa_cons (pe_glob (v := .ref C_CountError) (by rfl) gl_CountError rfl) pa_nil))) pa_nil)))) (pa_cons (pe_tup (pa_cons (z_str lit_25) (pa_cons (pe_callB (kh_isi (K := K) rk.exc (.head _) hz hf) (by rfl) g.b_isinstance bt_isinstance (pa_cons (pv 0) (pa_cons (pe_glob (v := .ref C_NoPage) (by rfl) gl_NoPage rfl) pa_nil))) (pa_cons (pe_callB (kh_isi (K := K) rk.exc (.head _) hz hf) (by rfl) g.b_isinstance bt_isinstance (pa_cons (pv 0) (pa_cons (pe_glob (v := .ref C_CountError) (by rfl) gl_CountError rfl) pa_nil))) pa_nil)))) (pa_cons (pe_tup (pa_cons (z_str lit_24) (pa_cons (pe_callB (kh_isi (K := K) rk.exc (.head _) hz hf) (by rfl) g.b_isinstance bt_isinstance (pa_cons (pv 0) (pa_cons (pe_glob (v := .ref C_NoWord) (by rfl) gl_NoWord rfl) pa_nil))) (pa_cons (pe_callB (kh_isi (K := K) rk.exc (.head _) hz hf) (by rfl) g.b_isinstance bt_isinstance (pa_cons (pv 0) (pa_cons (pe_glob (v := .ref C_CountError) (by rfl) gl_CountError rfl) pa_nil))) pa_nil)))) (pa_cons (pe_tup (pa_cons (z_str lit_23) (pa_cons (pe_callB (kh_isi (K := K) rk.exc (.head _) hz hf) (by rfl) g.b_isinstance bt_isinstance (pa_cons (pv 0) (pa_cons (pe_glob (v := .ref C_NoTurned) (by rfl) gl_NoTurned rfl) pa_nil))) (pa_cons (pe_callB (kh_isi (K := K) rk.exc (.head _) hz hf) (by rfl) g.b_isinstance bt_isinstance (pa_cons (pv 0) (pa_cons (pe_glob (v := .ref C_CountError) (by rfl) gl_CountError rfl) pa_nil))) pa_nil)))) (pa_cons (pe_tup (pa_cons (z_str lit_22) (pa_cons (pe_callB (kh_isi (K := K) rk.exc (.head _) hz hf) (by rfl) g.b_isinstance bt_isinstance (pa_cons (pv 0) (pa_cons (pe_glob (v := .ref C_NoStretch) (by rfl) gl_NoStretch rfl) pa_nil))) (pa_cons (pe_callB (kh_isi (K := K) rk.exc (.head _) hz hf) (by rfl) g.b_isinstance bt_isinstance (pa_cons (pv 0) (pa_cons (pe_glob (v := .ref C_CountError) (by rfl) gl_CountError rfl) pa_nil))) pa_nil)))) (pa_cons (pe_tup (pa_cons (z_str lit_21) (pa_cons (pe_callB (kh_isi (K := K) rk.exc (.head _) hz hf) (by rfl) g.b_isinstance bt_isinstance (pa_cons (pv 0) (pa_cons (pe_glob (v := .ref C_NoRow) (by rfl) gl_NoRow rfl) pa_nil))) (pa_cons (pe_callB (kh_isi (K := K) rk.exc (.head _) hz hf) (by rfl) g.b_isinstance bt_isinstance (pa_cons (pv 0) (pa_cons (pe_glob (v := .ref C_CountError) (by rfl) gl_CountError rfl) pa_nil))) pa_nil)))) (pa_cons (pe_tup (pa_cons (z_str lit_20) (pa_cons (pe_callB (kh_isi (K := K) rk.exc (.head _) hz hf) (by rfl) g.b_isinstance bt_isinstance (pa_cons (pv 0) (pa_cons (pe_glob (v := .ref C_NoPlace) (by rfl) gl_NoPlace rfl) pa_nil))) (pa_cons (pe_callB (kh_isi (K := K) rk.exc (.head _) hz hf) (by rfl) g.b_isinstance bt_isinstance (pa_cons (pv 0) (pa_cons (pe_bltn (v := .ty "IndexError") (by rfl) g.b_IndexError bt_IndexError rfl) pa_nil))) pa_nil)))) (pa_cons (pe_tup (pa_cons (z_str lit_19) (pa_cons (pe_callB (kh_isi (K := K) rk.exc (.head _) hz hf) (by rfl) g.b_isinstance bt_isinstance (pa_cons (pv 0) (pa_cons (pe_glob (v := .ref C_NoNode) (by rfl) gl_NoNode rfl) pa_nil))) (pa_cons (pe_callB (kh_isi (K := K) rk.exc (.head _) hz hf) (by rfl) g.b_isinstance bt_isinstance (pa_cons (pv 0) (pa_cons (pe_bltn (v := .ty "KeyError") (by rfl) g.b_KeyError bt_KeyError rfl) pa_nil))) pa_nil)))) (pa_cons (pe_tup (pa_cons (z_str lit_18) (pa_cons (pe_callB (kh_isi (K := K) rk.exc (.head _) hz hf) (by rfl) g.b_isinstance bt_isinstance (pa_cons (pv 0) (pa_cons (pe_glob (v := .ref C_NoLetter) (by rfl) gl_NoLetter rfl) pa_nil))) (pa_cons (pe_callB (kh_isi (K := K) rk.exc (.head _) hz hf) (by rfl) g.b_isinstance bt_isinstance (pa_cons (pv 0) (pa_cons (pe_bltn (v := .ty "LookupError") (by rfl) g.b_LookupError bt_LookupError rfl) pa_nil))) pa_nil)))) (pa_cons (pe_tup (pa_cons (z_str lit_17) (pa_cons (pe_callB (kh_isi (K := K) rk.exc (.head _) hz hf) (by rfl) g.b_isinstance bt_isinstance (pa_cons (pv 0) (pa_cons (pe_glob (v := .ref C_NoDeed) (by rfl) gl_NoDeed rfl) pa_nil))) (pa_cons (pe_callB (kh_isi (K := K) rk.exc (.head _) hz hf) (by rfl) g.b_isinstance bt_isinstance (pa_cons (pv 0) (pa_cons (pe_bltn (v := .ty "LookupError") (by rfl) g.b_LookupError bt_LookupError rfl) pa_nil))) pa_nil)))) (pa_cons (pe_tup (pa_cons (z_str lit_16) (pa_cons (pe_callB (kh_isi (K := K) rk.exc (.head _) hz hf) (by rfl) g.b_isinstance bt_isinstance (pa_cons (pv 0) (pa_cons (pe_glob (v := .ref C_Full) (by rfl) gl_Full rfl) pa_nil))) (pa_cons (pe_callB (kh_isi (K := K) rk.exc (.head _) hz hf) (by rfl) g.b_isinstance bt_isinstance (pa_cons (pv 0) (pa_cons (pe_bltn (v := .ty "OverflowError") (by rfl) g.b_OverflowError bt_OverflowError rfl) pa_nil))) pa_nil)))) (pa_cons (pe_tup (pa_cons (z_str lit_15) (pa_cons (pe_callB (kh_isi (K := K) rk.exc (.head _) hz hf) (by rfl) g.b_isinstance bt_isinstance (pa_cons (pv 0) (pa_cons (pe_glob (v := .ref C_Torn) (by rfl) gl_Torn rfl) pa_nil))) (pa_cons (pe_callB (kh_isi (K := K) rk.exc (.head _) hz hf) (by rfl) g.b_isinstance bt_isinstance (pa_cons (pv 0) (pa_cons (pe_bltn (v := .ty "RuntimeError") (by rfl) g.b_RuntimeError bt_RuntimeError rfl) pa_nil))) pa_nil)))) (pa_cons (pe_tup (pa_cons (z_str lit_14) (pa_cons (pe_callB (kh_isi (K := K) rk.exc (.head _) hz hf) (by rfl) g.b_isinstance bt_isinstance (pa_cons (pv 0) (pa_cons (pe_glob (v := .ref C_Busy) (by rfl) gl_Busy rfl) pa_nil))) (pa_cons (pe_callB (kh_isi (K := K) rk.exc (.head _) hz hf) (by rfl) g.b_isinstance bt_isinstance (pa_cons (pv 0) (pa_cons (pe_bltn (v := .ty "RuntimeError") (by rfl) g.b_RuntimeError bt_RuntimeError rfl) pa_nil))) pa_nil)))) pa_nil)))))))))))))))))
      (pss_cons (kh_setLc (K := K) (i := 2) (own := [("_law_name", 4), ("_law_ours", 5), ("_law_theirs", 6)]) hot (.head _) sc_law_which.nd rfl rfl (sw_true rfl rfl rfl (by decide +kernel)) (pv 1) (blkOk_by (own := [("_law_name", 4), ("_law_ours", 5), ("_law_theirs", 6)]) (N := nm_law_which) (sc := defScope st_law_which) (by decide +kernel)) (fun _ _ _ _ _ => (kh_tup (K := K) (n := 3) hot (pgs_cons (pg_name (i := 4) sc_law_which.nd rfl (Or.inl rfl)) (pgs_cons (pg_name (i := 5) sc_law_which.nd rfl (Or.inl rfl)) (pgs_cons (pg_name (i := 6) sc_law_which.nd rfl (Or.inl rfl)) pgs_nil))))) (fun _ _ _ _ _ => (pts_one (k_truth (K := K) (pv 5) (by intro _; rfl)))) (fun _ _ _ _ _ => (pv 4)) go_list)
      (pss_cons (kh_setLc (K := K) (i := 3) (own := [("_law_name", 4), ("_law_ours", 5), ("_law_theirs", 6)]) hot (.head _) sc_law_which.nd rfl rfl (sw_true rfl rfl rfl (by decide +kernel)) (pv 1) (blkOk_by (own := [("_law_name", 4), ("_law_ours", 5), ("_law_theirs", 6)]) (N := nm_law_which) (sc := defScope st_law_which) (by decide +kernel)) (fun _ _ _ _ _ => (kh_tup (K := K) (n := 3) hot (pgs_cons (pg_name (i := 4) sc_law_which.nd rfl (Or.inl rfl)) (pgs_cons (pg_name (i := 5) sc_law_which.nd rfl (Or.inl rfl)) (pgs_cons (pg_name (i := 6) sc_law_which.nd rfl (Or.inl rfl)) pgs_nil))))) (fun _ _ _ _ _ => (pts_one (PW.pt (pw_and (k_truth (K := K) (pv 5) (by intro _; rfl)) (pw_and1 (k_truth (K := K) (pv 6) (by intro _; rfl))))))) (fun _ _ _ _ _ => (pv 4)) go_list)
      (pss_cons (ps_if (PW.pt (pw_or (pt_cmpR (k_ne (K := K) hr.units) (pe_callB (k_len (K := K)) (by rfl) g.b_len bt_len (pa_cons (pv 2) pa_nil)) pe_int (nomark _)) (pw_or (pt_cmpR (k_ne (K := K) hr.units) (pv 3) (pv 2) (nomark _)) (pw_or1 (pt_cmpR (k_ne (K := K) hr.units) (pe_callB (kh_isi (K := K) rk.exc (.head _) hz hf) (by rfl) g.b_isinstance bt_isinstance (pa_cons (pv 0) (pa_cons (pe_bltn (v := .ty "ValueError") (by rfl) g.b_ValueError bt_ValueError rfl) pa_nil))) (pe_callB (kh_isi (K := K) rk.exc (.head _) hz hf) (by rfl) g.b_isinstance bt_isinstance (pa_cons (pv 0) (pa_cons (pe_glob (v := .ref C_CountError) (by rfl) gl_CountError rfl) pa_nil))) (nomark _)))))) (pss_one (ps_ret (z_str lit_13))) pss_nil)
      (pss_one (ps_ret (pe_ix (k_ix (K := K)) (pv 2) pe_int (fun _ _ => rfl)))))))), ?_⟩
  have k0 := rk.kit 0 _ rfl
  have k1 := rk.kit 1 _ rfl
  have k2 := rk.kit 2 _ rfl
  have k3 := rk.kit 3 _ rfl
  have k4 := rk.kit 4 _ rfl
  have k5 := rk.kit 5 _ rfl
  have k6 := rk.kit 6 _ rfl
  have k7 := rk.kit 7 _ rfl
  have k8 := rk.kit 8 _ rfl
  have k9 := rk.kit 9 _ rfl
  have k10 := rk.kit 10 _ rfl
  have k11 := rk.kit 11 _ rfl
  have k12 := rk.kit 12 _ rfl
  have k13 := rk.kit 13 _ rfl
  have k14 := rk.kit 14 _ rfl
  have u0 := rk.kup 0 _ rfl
  have u1 := rk.kup 1 _ rfl
  have u2 := rk.kup 2 _ rfl
  have u3 := rk.kup 3 _ rfl
  have u4 := rk.kup 4 _ rfl
  have u5 := rk.kup 5 _ rfl
  have u6 := rk.kup 6 _ rfl
  have u7 := rk.kup 7 _ rfl
  have u8 := rk.kup 8 _ rfl
  have u9 := rk.kup 9 _ rfl
  have u10 := rk.kup 10 _ rfl
  have u11 := rk.kup 11 _ rfl
  have u12 := rk.kup 12 _ rfl
  have u13 := rk.kup 13 _ rfl
  have u14 := rk.kup 14 _ rfl
  have kv := rk.kv
  have kc := rk.kc
  have s : S [AEx H] H := S.aex
  have own := rk.own
  have e12 : ([if decide (i = 0) = true then some (T [78, 111, 67, 111, 100, 101]) else none, if decide (i = 1) = true then some (T [78, 111, 66, 105, 116, 115]) else none, if decide (i = 2) = true then some (T [78, 111, 84, 114, 101, 101]) else none, if decide (i = 3) = true then some (T [78, 111, 80, 97, 103, 101]) else none, if decide (i = 4) = true then some (T [78, 111, 87, 111, 114, 100]) else none, if decide (i = 5) = true then some (T [78, 111, 84, 117, 114, 110, 101, 100]) else none, if decide (i = 6) = true then some (T [78, 111, 83, 116, 114, 101, 116, 99, 104]) else none, if decide (i = 7) = true then some (T [78, 111, 82, 111, 119]) else none, if decide (i = 8) = true then some (T [78, 111, 80, 108, 97, 99, 101]) else none, if decide (i = 9) = true then some (T [78, 111, 78, 111, 100, 101]) else none, if decide (i = 10) = true then some (T [78, 111, 76, 101, 116, 116, 101, 114]) else none, if decide (i = 11) = true then some (T [78, 111, 68, 101, 101, 100]) else none, if decide (i = 12) = true then some (T [70, 117, 108, 108]) else none, if decide (i = 13) = true then some (T [84, 111, 114, 110]) else none, if decide (i = 14) = true then some (T [66, 117, 115, 121]) else none] : List (Option V)).filterMap id = [T r.nm] ∧ ([if (decide (i = 0) && kitT K r.C (.ref C_CountError)) = true then some (T [78, 111, 67, 111, 100, 101]) else none, if (decide (i = 1) && kitT K r.C (.ref C_CountError)) = true then some (T [78, 111, 66, 105, 116, 115]) else none, if (decide (i = 2) && kitT K r.C (.ref C_CountError)) = true then some (T [78, 111, 84, 114, 101, 101]) else none, if (decide (i = 3) && kitT K r.C (.ref C_CountError)) = true then some (T [78, 111, 80, 97, 103, 101]) else none, if (decide (i = 4) && kitT K r.C (.ref C_CountError)) = true then some (T [78, 111, 87, 111, 114, 100]) else none, if (decide (i = 5) && kitT K r.C (.ref C_CountError)) = true then some (T [78, 111, 84, 117, 114, 110, 101, 100]) else none, if (decide (i = 6) && kitT K r.C (.ref C_CountError)) = true then some (T [78, 111, 83, 116, 114, 101, 116, 99, 104]) else none, if (decide (i = 7) && kitT K r.C (.ref C_CountError)) = true then some (T [78, 111, 82, 111, 119]) else none, if (decide (i = 8) && kitT K r.C (.type "IndexError")) = true then some (T [78, 111, 80, 108, 97, 99, 101]) else none, if (decide (i = 9) && kitT K r.C (.type "KeyError")) = true then some (T [78, 111, 78, 111, 100, 101]) else none, if (decide (i = 10) && kitT K r.C (.type "LookupError")) = true then some (T [78, 111, 76, 101, 116, 116, 101, 114]) else none, if (decide (i = 11) && kitT K r.C (.type "LookupError")) = true then some (T [78, 111, 68, 101, 101, 100]) else none, if (decide (i = 12) && kitT K r.C (.type "OverflowError")) = true then some (T [70, 117, 108, 108]) else none, if (decide (i = 13) && kitT K r.C (.type "RuntimeError")) = true then some (T [84, 111, 114, 110]) else none, if (decide (i = 14) && kitT K r.C (.type "RuntimeError")) = true then some (T [66, 117, 115, 121]) else none] : List (Option V)).filterMap id = [T r.nm] ∧ (∀ c ∈ r.nm, c < 1000) ∧ r.nm.length ≤ 20 := by
    clear k0 k1 k2 k3 k4 k5 k6 k7 k8 k9 k10 k11 k12 k13 k14 u0 u1 u2 u3 u4 u5 u6 u7 u8 u9 u10 u11 u12 u13 u14 kv kc rk hz s
    have hi15 : i < 15 := (List.getElem?_eq_some_iff.mp hi).1
    rcases (by omega : i = 0 ∨ i = 1 ∨ i = 2 ∨ i = 3 ∨ i = 4 ∨ i = 5 ∨ i = 6 ∨ i = 7 ∨ i = 8 ∨ i = 9 ∨ i = 10 ∨ i = 11 ∨ i = 12 ∨ i = 13 ∨ i = 14) with rfl | rfl | rfl | rfl | rfl | rfl | rfl | rfl | rfl | rfl | rfl | rfl | rfl | rfl | rfl
    all_goals
      cases hi
      dsimp only at own
      refine ⟨rfl, ?_, ?_, ?_⟩
      · rw [own]
        rfl
      · dsimp only
        decide
      · dsimp only
        decide
  obtain ⟨e1, e2, hc, hl⟩ := e12
  (walk_at "a85c4f338"; walk_at "afaa010ed"; walk_at "ae1f83bb8"; walk_at "ab6f4d09a"; walk_at "ae1f83bb8"; walk_at "ad15d6c32"; walk_at "ae1f83bb8"; walk_at "a33f2f4b5"; walk_at "ae1f83bb8"; walk_at "ad25b13d2"; walk_at "ae1f83bb8"; walk_at "ad15d6c32"; walk_at "afef05d44"; walk_at "a3c7ced5e"; walk_at "ae1f83bb8"; walk_at "a33f2f4b5"; walk_at "ae1f83bb8"; walk_at "ad25b13d2"; walk_at "ae1f83bb8"; walk_at "ad15d6c32"; walk_at "afef05d44"; walk_at "a3c7ced5e"; walk_at "afef05d44"; walk_at "a1d9c2e1b"; walk_at "ae1f83bb8"; walk_at "ab6f4d09a"; walk_at "ae1f83bb8"; walk_at "ad15d6c32"; walk_at "ae1f83bb8"; walk_at "a33f2f4b5"; walk_at "ae1f83bb8"; walk_at "ad25b13d2"; walk_at "ae1f83bb8"; walk_at "ad15d6c32"; walk_at "afef05d44"; walk_at "a3c7ced5e"; walk_at "ae1f83bb8"; walk_at "a33f2f4b5"; walk_at "ae1f83bb8"; walk_at "ad25b13d2"; walk_at "ae1f83bb8"; walk_at "ad15d6c32"; walk_at "afef05d44"; walk_at "a3c7ced5e"; walk_at "afef05d44"; walk_at "a1d9c2e1b"; walk_at "ae1f83bb8"; walk_at "ab6f4d09a"; walk_at "ae1f83bb8"; walk_at "ad15d6c32"; walk_at "ae1f83bb8"; walk_at "a33f2f4b5"; walk_at "ae1f83bb8"; walk_at "ad25b13d2"; walk_at "ae1f83bb8"; walk_at "ad15d6c32"; walk_at "afef05d44"; walk_at "a3c7ced5e"; walk_at "ae1f83bb8"; walk_at "a33f2f4b5"; walk_at "ae1f83bb8"; walk_at "ad25b13d2"; walk_at "ae1f83bb8"; walk_at "ad15d6c32"; walk_at "afef05d44"; walk_at "a3c7ced5e"; walk_at "afef05d44"; walk_at "a1d9c2e1b"; walk_at "ae1f83bb8"; walk_at "ab6f4d09a"; walk_at "ae1f83bb8"; walk_at "ad15d6c32"; walk_at "ae1f83bb8"; walk_at "a33f2f4b5"; walk_at "ae1f83bb8"; walk_at "ad25b13d2"; walk_at "ae1f83bb8"; walk_at "ad15d6c32"; walk_at "afef05d44"; walk_at "a3c7ced5e"; walk_at "ae1f83bb8"; walk_at "a33f2f4b5"; walk_at "ae1f83bb8"; walk_at "ad25b13d2"; walk_at "ae1f83bb8"; walk_at "ad15d6c32"; walk_at "afef05d44"; walk_at "a3c7ced5e"; walk_at "afef05d44"; walk_at "a1d9c2e1b"; walk_at "ae1f83bb8"; walk_at "ab6f4d09a"; walk_at "ae1f83bb8"; walk_at "ad15d6c32"; walk_at "ae1f83bb8"; walk_at "a33f2f4b5"; walk_at "ae1f83bb8"; walk_at "ad25b13d2"; walk_at "ae1f83bb8"; walk_at "ad15d6c32"; walk_at "afef05d44"; walk_at "a3c7ced5e"; walk_at "ae1f83bb8"; walk_at "a33f2f4b5"; walk_at "ae1f83bb8"; walk_at "ad25b13d2"; walk_at "ae1f83bb8"; walk_at "ad15d6c32"; walk_at "afef05d44"; walk_at "a3c7ced5e"; walk_at "afef05d44"; walk_at "a1d9c2e1b"; walk_at "ae1f83bb8"; walk_at "ab6f4d09a"; walk_at "ae1f83bb8"; walk_at "ad15d6c32"; walk_at "ae1f83bb8"; walk_at "a33f2f4b5"; walk_at "ae1f83bb8"; walk_at "ad25b13d2"; walk_at "ae1f83bb8"; walk_at "ad15d6c32"; walk_at "afef05d44"; walk_at "a3c7ced5e"; walk_at "ae1f83bb8"; walk_at "a33f2f4b5"; walk_at "ae1f83bb8"; walk_at "ad25b13d2"; walk_at "ae1f83bb8"; walk_at "ad15d6c32"; walk_at "afef05d44"; walk_at "a3c7ced5e"; walk_at "afef05d44"; walk_at "a1d9c2e1b"; walk_at "ae1f83bb8"; walk_at "ab6f4d09a"; walk_at "ae1f83bb8"; walk_at "ad15d6c32"; walk_at "ae1f83bb8"; walk_at "a33f2f4b5"; walk_at "ae1f83bb8"; walk_at "ad25b13d2"; walk_at "ae1f83bb8"; walk_at "ad15d6c32"; walk_at "afef05d44"; walk_at "a3c7ced5e"; walk_at "ae1f83bb8"; walk_at "a33f2f4b5"; walk_at "ae1f83bb8"; walk_at "ad25b13d2"; walk_at "ae1f83bb8"; walk_at "ad15d6c32"; walk_at "afef05d44"; walk_at "a3c7ced5e"; walk_at "afef05d44"; walk_at "a1d9c2e1b"; walk_at "ae1f83bb8"; walk_at "ab6f4d09a"; walk_at "ae1f83bb8"; walk_at "ad15d6c32"; walk_at "ae1f83bb8"; walk_at "a33f2f4b5"; walk_at "ae1f83bb8"; walk_at "ad25b13d2"; walk_at "ae1f83bb8"; walk_at "ad15d6c32"; walk_at "afef05d44"; walk_at "a3c7ced5e"; walk_at "ae1f83bb8"; walk_at "a33f2f4b5"; walk_at "ae1f83bb8"; walk_at "ad25b13d2"; walk_at "ae1f83bb8"; walk_at "ad15d6c32"; walk_at "afef05d44"; walk_at "a3c7ced5e"; walk_at "afef05d44"; walk_at "a1d9c2e1b"; walk_at "ae1f83bb8"; walk_at "ab6f4d09a"; walk_at "ae1f83bb8"; walk_at "ad15d6c32"; walk_at "ae1f83bb8"; walk_at "a33f2f4b5"; walk_at "ae1f83bb8"; walk_at "ad25b13d2"; walk_at "ae1f83bb8"; walk_at "ad15d6c32"; walk_at "afef05d44"; walk_at "a3c7ced5e"; walk_at "ae1f83bb8"; walk_at "a33f2f4b5"; walk_at "ae1f83bb8"; walk_at "ad25b13d2"; walk_at "ae1f83bb8"; walk_at "ad15d6c32"; walk_at "afef05d44"; walk_at "aa50e26fe"; walk_at "afef05d44"; walk_at "a1d9c2e1b"; walk_at "ae1f83bb8"; walk_at "ab6f4d09a"; walk_at "ae1f83bb8"; walk_at "ad15d6c32"; walk_at "ae1f83bb8"; walk_at "a33f2f4b5"; walk_at "ae1f83bb8"; walk_at "ad25b13d2"; walk_at "ae1f83bb8"; walk_at "ad15d6c32"; walk_at "afef05d44"; walk_at "a3c7ced5e"; walk_at "ae1f83bb8"; walk_at "a33f2f4b5"; walk_at "ae1f83bb8"; walk_at "ad25b13d2"; walk_at "ae1f83bb8"; walk_at "ad15d6c32"; walk_at "afef05d44"; walk_at "aa50e26fe"; walk_at "afef05d44"; walk_at "a1d9c2e1b"; walk_at "ae1f83bb8"; walk_at "ab6f4d09a"; walk_at "ae1f83bb8"; walk_at "ad15d6c32"; walk_at "ae1f83bb8"; walk_at "a33f2f4b5"; walk_at "ae1f83bb8"; walk_at "ad25b13d2"; walk_at "ae1f83bb8"; walk_at "ad15d6c32"; walk_at "afef05d44"; walk_at "a3c7ced5e"; walk_at "ae1f83bb8"; walk_at "a33f2f4b5"; walk_at "ae1f83bb8"; walk_at "ad25b13d2"; walk_at "ae1f83bb8"; walk_at "ad15d6c32"; walk_at "afef05d44"; walk_at "aa50e26fe"; walk_at "afef05d44"; walk_at "a1d9c2e1b"; walk_at "ae1f83bb8"; walk_at "ab6f4d09a"; walk_at "ae1f83bb8"; walk_at "ad15d6c32"; walk_at "ae1f83bb8"; walk_at "a33f2f4b5"; walk_at "ae1f83bb8"; walk_at "ad25b13d2"; walk_at "ae1f83bb8"; walk_at "ad15d6c32"; walk_at "afef05d44"; walk_at "a3c7ced5e"; walk_at "ae1f83bb8"; walk_at "a33f2f4b5"; walk_at "ae1f83bb8"; walk_at "ad25b13d2"; walk_at "ae1f83bb8"; walk_at "ad15d6c32"; walk_at "afef05d44"; walk_at "aa50e26fe"; walk_at "afef05d44"; walk_at "a1d9c2e1b"; walk_at "ae1f83bb8"; walk_at "ab6f4d09a"; walk_at "ae1f83bb8"; walk_at "ad15d6c32"; walk_at "ae1f83bb8"; walk_at "a33f2f4b5"; walk_at "ae1f83bb8"; walk_at "ad25b13d2"; walk_at "ae1f83bb8"; walk_at "ad15d6c32"; walk_at "afef05d44"; walk_at "a3c7ced5e"; walk_at "ae1f83bb8"; walk_at "a33f2f4b5"; walk_at "ae1f83bb8"; walk_at "ad25b13d2"; walk_at "ae1f83bb8"; walk_at "ad15d6c32"; walk_at "afef05d44"; walk_at "aa50e26fe"; walk_at "afef05d44"; walk_at "a1d9c2e1b"; walk_at "ae1f83bb8"; walk_at "ab6f4d09a"; walk_at "ae1f83bb8"; walk_at "ad15d6c32"; walk_at "ae1f83bb8"; walk_at "a33f2f4b5"; walk_at "ae1f83bb8"; walk_at "ad25b13d2"; walk_at "ae1f83bb8"; walk_at "ad15d6c32"; walk_at "afef05d44"; walk_at "a3c7ced5e"; walk_at "ae1f83bb8"; walk_at "a33f2f4b5"; walk_at "ae1f83bb8"; walk_at "ad25b13d2"; walk_at "ae1f83bb8"; walk_at "ad15d6c32"; walk_at "afef05d44"; walk_at "aa50e26fe"; walk_at "afef05d44"; walk_at "a1d9c2e1b"; walk_at "ae1f83bb8"; walk_at "ab6f4d09a"; walk_at "ae1f83bb8"; walk_at "ad15d6c32"; walk_at "ae1f83bb8"; walk_at "a33f2f4b5"; walk_at "ae1f83bb8"; walk_at "ad25b13d2"; walk_at "ae1f83bb8"; walk_at "ad15d6c32"; walk_at "afef05d44"; walk_at "a3c7ced5e"; walk_at "ae1f83bb8"; walk_at "a33f2f4b5"; walk_at "ae1f83bb8"; walk_at "ad25b13d2"; walk_at "ae1f83bb8"; walk_at "ad15d6c32"; walk_at "afef05d44"; walk_at "aa50e26fe"; walk_at "afef05d44"; walk_at "a1d9c2e1b"; walk_at "afef05d44"; walk_at "a5a35570c"; walk_at "a3d76496c"; walk_at "a85c4f338"; walk_at "a2eb9ad30"; walk_at "a27ff4d3c"; walk_at "ad25b13d2"; walk_at "a4e297517")
  rename_i p1 H1 s1
  refine lcFS (fs := [if decide (i = 0) = true then some (T [78, 111, 67, 111, 100, 101]) else none, if decide (i = 1) = true then some (T [78, 111, 66, 105, 116, 115]) else none, if decide (i = 2) = true then some (T [78, 111, 84, 114, 101, 101]) else none, if decide (i = 3) = true then some (T [78, 111, 80, 97, 103, 101]) else none, if decide (i = 4) = true then some (T [78, 111, 87, 111, 114, 100]) else none, if decide (i = 5) = true then some (T [78, 111, 84, 117, 114, 110, 101, 100]) else none, if decide (i = 6) = true then some (T [78, 111, 83, 116, 114, 101, 116, 99, 104]) else none, if decide (i = 7) = true then some (T [78, 111, 82, 111, 119]) else none, if decide (i = 8) = true then some (T [78, 111, 80, 108, 97, 99, 101]) else none, if decide (i = 9) = true then some (T [78, 111, 78, 111, 100, 101]) else none, if decide (i = 10) = true then some (T [78, 111, 76, 101, 116, 116, 101, 114]) else none, if decide (i = 11) = true then some (T [78, 111, 68, 101, 101, 100]) else none, if decide (i = 12) = true then some (T [70, 117, 108, 108]) else none, if decide (i = 13) = true then some (T [84, 111, 114, 110]) else none, if decide (i = 14) = true then some (T [66, 117, 115, 121]) else none]) s1 (fun H' z => SqL.of (z.at_ Pick.head)) rfl (show (15 : Nat) < 16777216 by decide) (fun D j x fo acc H2 N hx hf s2 hl n1 n2 => ?_) (fun D H2 s2 => ?_)
  · have hj : j < 15 := (List.getElem?_eq_some_iff.mp hx).1
    rcases (by omega : j = 0 ∨ j = 1 ∨ j = 2 ∨ j = 3 ∨ j = 4 ∨ j = 5 ∨ j = 6 ∨ j = 7 ∨ j = 8 ∨ j = 9 ∨ j = 10 ∨ j = 11 ∨ j = 12 ∨ j = 13 ∨ j = 14) with rfl | rfl | rfl | rfl | rfl | rfl | rfl | rfl | rfl | rfl | rfl | rfl | rfl | rfl | rfl
    all_goals
      cases hx
      cases hf
      (walk_at "afbecc87a"; walk_at "a54305b80"; walk_at "a3beb7cd4"; walk_at "a54305b80"; walk_at "a3beb7cd4"; walk_at "a54305b80"; walk_at "a3beb7cd4"; walk_at "abc6e375f"; walk_at "af96afe5f"; walk_at "a4d105e21"; walk_at "ad25b13d2"; walk_at "aa4050c9e")
      refine zput_b (fun q => ?_) (fun q => ?_)
      · (walk_at "ad25b13d2"; walk_at "a594ff5a4")
        exact n1 _ (if_pos q) _ (by assumption)
      · exact n2 (if_neg (by rw [q]; exact Bool.false_ne_true)) _ s2
  · (walk_at "a3d76496c"; walk_at "a85c4f338"; walk_at "a2eb9ad30"; walk_at "a27ff4d3c"; walk_at "ad25b13d2"; walk_at "a4e297517")
    refine lcFS (fs := [if (decide (i = 0) && kitT K r.C (.ref C_CountError)) = true then some (T [78, 111, 67, 111, 100, 101]) else none, if (decide (i = 1) && kitT K r.C (.ref C_CountError)) = true then some (T [78, 111, 66, 105, 116, 115]) else none, if (decide (i = 2) && kitT K r.C (.ref C_CountError)) = true then some (T [78, 111, 84, 114, 101, 101]) else none, if (decide (i = 3) && kitT K r.C (.ref C_CountError)) = true then some (T [78, 111, 80, 97, 103, 101]) else none, if (decide (i = 4) && kitT K r.C (.ref C_CountError)) = true then some (T [78, 111, 87, 111, 114, 100]) else none, if (decide (i = 5) && kitT K r.C (.ref C_CountError)) = true then some (T [78, 111, 84, 117, 114, 110, 101, 100]) else none, if (decide (i = 6) && kitT K r.C (.ref C_CountError)) = true then some (T [78, 111, 83, 116, 114, 101, 116, 99, 104]) else none, if (decide (i = 7) && kitT K r.C (.ref C_CountError)) = true then some (T [78, 111, 82, 111, 119]) else none, if (decide (i = 8) && kitT K r.C (.type "IndexError")) = true then some (T [78, 111, 80, 108, 97, 99, 101]) else none, if (decide (i = 9) && kitT K r.C (.type "KeyError")) = true then some (T [78, 111, 78, 111, 100, 101]) else none, if (decide (i = 10) && kitT K r.C (.type "LookupError")) = true then some (T [78, 111, 76, 101, 116, 116, 101, 114]) else none, if (decide (i = 11) && kitT K r.C (.type "LookupError")) = true then some (T [78, 111, 68, 101, 101, 100]) else none, if (decide (i = 12) && kitT K r.C (.type "OverflowError")) = true then some (T [70, 117, 108, 108]) else none, if (decide (i = 13) && kitT K r.C (.type "RuntimeError")) = true then some (T [84, 111, 114, 110]) else none, if (decide (i = 14) && kitT K r.C (.type "RuntimeError")) = true then some (T [66, 117, 115, 121]) else none]) s2 (fun H' z => SqL.of (z.at_ (.tail Pick.head))) rfl (show (15 : Nat) < 16777216 by decide) (fun D2 j x fo acc H3 N hx hf s3 hl n1 n2 => ?_) (fun D2 H3 s3 => ?_)
    · have hj : j < 15 := (List.getElem?_eq_some_iff.mp hx).1
      rcases (by omega : j = 0 ∨ j = 1 ∨ j = 2 ∨ j = 3 ∨ j = 4 ∨ j = 5 ∨ j = 6 ∨ j = 7 ∨ j = 8 ∨ j = 9 ∨ j = 10 ∨ j = 11 ∨ j = 12 ∨ j = 13 ∨ j = 14) with rfl | rfl | rfl | rfl | rfl | rfl | rfl | rfl | rfl | rfl | rfl | rfl | rfl | rfl | rfl
      all_goals
        cases hx
        cases hf
        (walk_at "afbecc87a"; walk_at "a54305b80"; walk_at "a3beb7cd4"; walk_at "a54305b80"; walk_at "a3beb7cd4"; walk_at "a54305b80"; walk_at "a3beb7cd4"; walk_at "abc6e375f"; walk_at "af96afe5f"; walk_at "a641c25ec"; walk_at "a4d105e21"; walk_at "ad25b13d2"; walk_at "aa4050c9e")
        refine zand_bb (fun q0 => ?_) (fun q0 => ?_)
        · (walk_at "a4d105e21"; walk_at "ad25b13d2"; walk_at "aa4050c9e")
          refine zput_b (fun q => ?_) (fun q => ?_)
          · (walk_at "ad25b13d2"; walk_at "a594ff5a4")
            exact n1 _ (if_pos (by rw [q0, q]; rfl)) _ (by assumption)
          · exact n2 (if_neg (by rw [q, Bool.and_false]; exact Bool.false_ne_true)) _ s3
        · exact n2 (if_neg (by rw [q0]; exact Bool.false_ne_true)) _ s3
    · rw [e1, e2] at s3
      (walk_at "a3d76496c"; walk_at "a4584bbba"; walk_at "a2c422e4c"; walk_at "a668f72f2"; walk_at "a2c441c41"; walk_at "a33f2f4b5"; walk_at "ae1f83bb8"; walk_at "ad25b13d2"; walk_at "afef05d44"; walk_at "a77f93157"; walk_at "ad15d6c32"; walk_at "a0631d19f"; walk_at "a8a699a1b")
      rw [show (!decide (((([T r.nm] : List V).length : Nat) : Int) = 1)) = false from rfl]
      (walk_at "a018c9fb9"; walk_at "a2c422e4c"; walk_at "a668f72f2"; walk_at "a2c441c41"; walk_at "ad25b13d2"; walk_at "ad25b13d2")
      refine neDD_ (d := .list [Dt r.nm]) (by walk_at "dp") (by walk_at "dp") (Rp.lst fun d h => by rw [List.mem_singleton.mp h]; exact Rp.str hc) (by simp only [List.length_singleton]; omega) (by decide) ?_
      (walk_at "a8a699a1b"; walk_at "a018c9fb9"; walk_at "a668f72f2"; walk_at "a2c441c41"; walk_at "a33f2f4b5"; walk_at "ae1f83bb8"; walk_at "ad25b13d2"; walk_at "ae1f83bb8"; walk_at "ad15d6c32"; walk_at "afef05d44"; walk_at "aa50e26fe"; walk_at "a33f2f4b5"; walk_at "ae1f83bb8"; walk_at "ad25b13d2"; walk_at "ae1f83bb8"; walk_at "ad15d6c32"; walk_at "afef05d44"; walk_at "a3c7ced5e")
      refine neDD_ (Dp.bl _) (Dp.bl _) (Rp.bl _) (by decide) (by decide) ?_
      (walk_at "a8a699a1b"; walk_at "a7b130abd"; walk_at "a3cf0dcf0"; walk_at "ac39ddb8c"; walk_at "a2c441c41"; walk_at "ad25b13d2"; walk_at "ad15d6c32"; walk_at "a5c5685b7"; walk_at "a8f7cfc14")
      exact k _ (ex_S (by with_reducible assumption) (by walk_at "pk"))
end
section
variable {P : Program} {w : World} {K : PySem.W.Frag} {mg : Str → Option Value} {base : Heap} {C_CountError C_NoCode C_NoBits C_NoTree C_NoPage C_NoWord C_NoTurned C_NoStretch C_NoRow C_NoPlace C_NoNode C_NoLetter C_NoDeed C_Full C_Torn C_Busy : Addr}
set_option maxHeartbeats 4000000 in
theorem ok_law_told {f : Addr} {fd : FuncData} {dV kV : Value} (g : G mg)
    (F : Txt K "_law_told" "_law_told" (defArgs st_law_told) (defBody st_law_told) (defScope st_law_told) dV kV f fd)
    (gl_Busy : mg "Busy" = some (.ref C_Busy))
    (gl_Full : mg "Full" = some (.ref C_Full))
    (gl_NoBits : mg "NoBits" = some (.ref C_NoBits))
    (gl_NoCode : mg "NoCode" = some (.ref C_NoCode))
    (gl_NoDeed : mg "NoDeed" = some (.ref C_NoDeed))
    (gl_NoLetter : mg "NoLetter" = some (.ref C_NoLetter))
    (gl_NoNode : mg "NoNode" = some (.ref C_NoNode))
    (gl_NoPage : mg "NoPage" = some (.ref C_NoPage))
    (gl_NoPlace : mg "NoPlace" = some (.ref C_NoPlace))
    (gl_NoRow : mg "NoRow" = some (.ref C_NoRow))
    (gl_NoStretch : mg "NoStretch" = some (.ref C_NoStretch))
    (gl_NoTree : mg "NoTree" = some (.ref C_NoTree))
    (gl_NoTurned : mg "NoTurned" = some (.ref C_NoTurned))
    (gl_NoWord : mg "NoWord" = some (.ref C_NoWord))
    (gl_Torn : mg "Torn" = some (.ref C_Torn))
    (D_law_which : DefW P w K mg base 1 "_law_which" (spWhich (refs C_NoCode C_CountError C_NoBits C_NoTree C_NoPage C_NoWord C_NoTurned C_NoStretch C_NoRow C_NoPlace C_NoNode C_NoLetter C_NoDeed C_Full C_Torn C_Busy)))
    (rk0 : refB K (refs C_NoCode C_CountError C_NoBits C_NoTree C_NoPage C_NoWord C_NoTurned C_NoStretch C_NoRow C_NoPlace C_NoNode C_NoLetter C_NoDeed C_Full C_Torn C_Busy) (.type "ValueError") (.ref C_CountError) = true)
    (glf : mg "_law_told" = some (.ref f)) (bdf : Binds K fd ["_law_deed"] []) :
    GivT P w K mg base 1 "_law_told" (tTold (refs C_NoCode C_CountError C_NoBits C_NoTree C_NoPage C_NoWord C_NoTurned C_NoStretch C_NoRow C_NoPlace C_NoNode C_NoLetter C_NoDeed C_Full C_Torn C_Busy)) := by
  refine ⟨f, fd, _, _, _, _, _, nm_law_told, "_law_deed", F, glf, bdf, sc_law_told, rfl, .inl rfl, by decide, by decide, fun cd A outer s H Q fa ca q tl hr ng act hc h => ?_⟩
  refine ⟨_, (pss_one (kh_try (K := K) (by rfl) (by rfl) sc_law_told.nd takesN0 (fun W pn xe tk po => (pss_one (ps_ret (pe_tup (pa_cons (z_str lit_29) (pa_cons (deed_wk act tk) pa_nil)))))) (HdsT.cons (i := 1) (tst_tup (.cons ⟨(by rfl), by decide, .inl gl_NoCode⟩ (.cons ⟨(by rfl), by decide, .inl gl_NoBits⟩ (.cons ⟨(by rfl), by decide, .inl gl_NoTree⟩ (.cons ⟨(by rfl), by decide, .inl gl_NoPage⟩ (.cons ⟨(by rfl), by decide, .inl gl_NoPlace⟩ (.cons ⟨(by rfl), by decide, .inl gl_Torn⟩ .nil)))))) (Nat.le_of_ble_eq_true rfl)) rfl rfl (fun a oe cls d pn hz hf => (pss_one (ps_ret (pe_tup (pa_cons (pe_which D_law_which (hr.mono (by decide)) hz hf (by rfl) (pa_cons (pv 1) pa_nil)) (pa_cons (kh_xf (K := K) hz.zc hf (pv 1)) pa_nil)))))) (HdsT.cons (i := 1) (tst_tup (.cons ⟨(by rfl), by decide, .inl gl_NoWord⟩ (.cons ⟨(by rfl), by decide, .inl gl_NoTurned⟩ (.cons ⟨(by rfl), by decide, .inl gl_NoStretch⟩ (.cons ⟨(by rfl), by decide, .inl gl_NoDeed⟩ (.cons ⟨(by rfl), by decide, .inl gl_Busy⟩ .nil))))) (Nat.le_of_ble_eq_true rfl)) rfl rfl (fun a oe cls d pn hz hf => (pss_one (ps_ret (pe_tup (pa_cons (pe_which D_law_which (hr.mono (by decide)) hz hf (by rfl) (pa_cons (pv 1) pa_nil)) (pa_cons pe_non pa_nil)))))) (HdsT.cons (i := 1) (tst_name ⟨(by rfl), by decide, .inl gl_NoNode⟩) rfl rfl (fun a oe cls d pn hz hf => (pss_one (ps_ret (pe_tup (pa_cons (pe_which D_law_which (hr.mono (by decide)) hz hf (by rfl) (pa_cons (pv 1) pa_nil)) (pa_cons (kh_xf (K := K) hz.zc hf (pv 1)) pa_nil)))))) (HdsT.cons (i := 1) (tst_name ⟨(by rfl), by decide, .inl gl_NoLetter⟩) rfl rfl (fun a oe cls d pn hz hf => (pss_one (ps_ret (pe_tup (pa_cons (pe_which D_law_which (hr.mono (by decide)) hz hf (by rfl) (pa_cons (pv 1) pa_nil)) (pa_cons (kh_xf (K := K) hz.zc hf (pv 1)) pa_nil)))))) (HdsT.cons (i := 1) (tst_name ⟨(by rfl), by decide, .inl gl_NoRow⟩) rfl rfl (fun a oe cls d pn hz hf => (pss_one (ps_ret (pe_tup (pa_cons (pe_which D_law_which (hr.mono (by decide)) hz hf (by rfl) (pa_cons (pv 1) pa_nil)) (pa_cons (kh_xf (K := K) hz.zc hf (pv 1)) pa_nil)))))) (HdsT.cons (i := 1) (tst_name ⟨(by rfl), by decide, .inl gl_Full⟩) rfl rfl (fun a oe cls d pn hz hf => (pss_one (ps_ret (pe_tup (pa_cons (pe_which D_law_which (hr.mono (by decide)) hz hf (by rfl) (pa_cons (pv 1) pa_nil)) (pa_cons (kh_xf (K := K) hz.zc hf (pv 1)) pa_nil)))))) HdsT.nil)))))))), ?_⟩
  (walk_at "ac39ddb8c"; walk_at "ab6f4d09a"; walk_at "ae1f83bb8"; walk_at "ad15d6c32"; walk_at "ae1f83bb8"; walk_at "af96afe5f")
  refine ⟨hc, _, _, ?_, ?_, h⟩
  · rintro cls d σ2 H1 hl2 ⟨i, r, v, hi, rfl, hb, k⟩
    obtain ⟨w0, w1, rfl⟩ : ∃ w0 w1, σ2 = [w0, w1] := by
      match σ2, hl2 with
      | [w0, w1], _ => exact ⟨w0, w1, rfl⟩
    have hB := hb.bears
    have rk := refB_ok rk0 hi
    have xf := rk.xf
    have e0 := rk.exm 0 _ rfl
    have e1 := rk.exm 1 _ rfl
    have e2 := rk.exm 2 _ rfl
    have e3 := rk.exm 3 _ rfl
    have e4 := rk.exm 4 _ rfl
    have e5 := rk.exm 5 _ rfl
    have e6 := rk.exm 6 _ rfl
    have e7 := rk.exm 7 _ rfl
    have e8 := rk.exm 8 _ rfl
    have e9 := rk.exm 9 _ rfl
    have e10 := rk.exm 10 _ rfl
    have e11 := rk.exm 11 _ rfl
    have e12 := rk.exm 12 _ rfl
    have e13 := rk.exm 13 _ rfl
    have e14 := rk.exm 14 _ rfl
    have hi15 : i < 15 := (List.getElem?_eq_some_iff.mp hi).1
    have c0 := (exm_c e0 (exm_c e1 (exm_c e2 (exm_c e3 (exm_c e8 (exm_c e13 exm_n))))))
    have c1 := (exm_c e4 (exm_c e5 (exm_c e6 (exm_c e11 (exm_c e14 exm_n)))))
    have c2 := (exm_c e9 exm_n)
    have c3 := (exm_c e10 exm_n)
    have c4 := (exm_c e7 exm_n)
    have c5 := (exm_c e12 exm_n)
    rcases (by omega : i = 0 ∨ i = 1 ∨ i = 2 ∨ i = 3 ∨ i = 4 ∨ i = 5 ∨ i = 6 ∨ i = 7 ∨ i = 8 ∨ i = 9 ∨ i = 10 ∨ i = 11 ∨ i = 12 ∨ i = 13 ∨ i = 14) with rfl | rfl | rfl | rfl | rfl | rfl | rfl | rfl | rfl | rfl | rfl | rfl | rfl | rfl | rfl
    · cases hi
      refine ⟨true, c0, fun _ a na => ?_, fun z => absurd z (by decide)⟩
      dsimp only at hb k xf ⊢
      (walk_at "a3d76496c"; walk_at "ac39ddb8c"; walk_at "ab6f4d09a"; walk_at "ae1f83bb8")
      refine cw_ ?_
      (walk_at "ae1f83bb8"; walk_at "ad25b13d2"; walk_at "afef05d44")
      refine which_ (i := 0) rfl rfl hB fun H2 e2 => ?_
      (walk_at "ae1f83bb8")
      refine xf_ xf (rk.no _ rfl) rfl (hb.up e2) ?_
      (walk_at "afef05d44"; walk_at "a0139b3e0"; walk_at "a8f7cfc14")
      rename_i p3 H3 h1 h2 h3
      exact k H3 p3 (Ex.trans e2 h2) (e2.back h1) h3
    · cases hi
      refine ⟨true, c0, fun _ a na => ?_, fun z => absurd z (by decide)⟩
      dsimp only at hb k xf ⊢
      (walk_at "a3d76496c"; walk_at "ac39ddb8c"; walk_at "ab6f4d09a"; walk_at "ae1f83bb8")
      refine cw_ ?_
      (walk_at "ae1f83bb8"; walk_at "ad25b13d2"; walk_at "afef05d44")
      refine which_ (i := 1) rfl rfl hB fun H2 e2 => ?_
      (walk_at "ae1f83bb8")
      refine xf_ xf (rk.no _ rfl) rfl (hb.up e2) ?_
      (walk_at "afef05d44"; walk_at "a0139b3e0"; walk_at "a8f7cfc14")
      rename_i p3 H3 h1 h2 h3
      exact k H3 p3 (Ex.trans e2 h2) (e2.back h1) h3
    · cases hi
      refine ⟨true, c0, fun _ a na => ?_, fun z => absurd z (by decide)⟩
      dsimp only at hb k xf ⊢
      (walk_at "a3d76496c"; walk_at "ac39ddb8c"; walk_at "ab6f4d09a"; walk_at "ae1f83bb8")
      refine cw_ ?_
      (walk_at "ae1f83bb8"; walk_at "ad25b13d2"; walk_at "afef05d44")
      refine which_ (i := 2) rfl rfl hB fun H2 e2 => ?_
      (walk_at "ae1f83bb8")
      refine xf_ xf (rk.no _ rfl) rfl (hb.up e2) ?_
      (walk_at "afef05d44"; walk_at "a0139b3e0"; walk_at "a8f7cfc14")
      rename_i p3 H3 h1 h2 h3
      exact k H3 p3 (Ex.trans e2 h2) (e2.back h1) h3
    · cases hi
      refine ⟨true, c0, fun _ a na => ?_, fun z => absurd z (by decide)⟩
      dsimp only at hb k xf ⊢
      (walk_at "a3d76496c"; walk_at "ac39ddb8c"; walk_at "ab6f4d09a"; walk_at "ae1f83bb8")
      refine cw_ ?_
      (walk_at "ae1f83bb8"; walk_at "ad25b13d2"; walk_at "afef05d44")
      refine which_ (i := 3) rfl rfl hB fun H2 e2 => ?_
      (walk_at "ae1f83bb8")
      refine xf_ xf (rk.no _ rfl) rfl (hb.up e2) ?_
      (walk_at "afef05d44"; walk_at "a0139b3e0"; walk_at "a8f7cfc14")
      rename_i p3 H3 h1 h2 h3
      exact k H3 p3 (Ex.trans e2 h2) (e2.back h1) h3
    · cases hi
      refine ⟨false, c0, fun z => absurd z (by decide), fun _ => ?_⟩
      refine ⟨true, c1, fun _ a na => ?_, fun z => absurd z (by decide)⟩
      dsimp only at hb k xf ⊢
      (walk_at "a3d76496c"; walk_at "ac39ddb8c"; walk_at "ab6f4d09a"; walk_at "ae1f83bb8")
      obtain ⟨rfl, rfl⟩ := hb
      refine cw_ ?_
      (walk_at "ae1f83bb8"; walk_at "ad25b13d2"; walk_at "afef05d44")
      refine which_ (i := 4) rfl rfl hB fun H2 e2 => ?_
      (walk_at "ae1f83bb8"; walk_at "ad15d6c32"; walk_at "afef05d44"; walk_at "a0139b3e0"; walk_at "a8f7cfc14")
      rename_i p3 H3 h1 h2 h3
      exact k H3 p3 (Ex.trans e2 h2) (e2.back h1) h3
    · cases hi
      refine ⟨false, c0, fun z => absurd z (by decide), fun _ => ?_⟩
      refine ⟨true, c1, fun _ a na => ?_, fun z => absurd z (by decide)⟩
      dsimp only at hb k xf ⊢
      (walk_at "a3d76496c"; walk_at "ac39ddb8c"; walk_at "ab6f4d09a"; walk_at "ae1f83bb8")
      obtain ⟨rfl, rfl⟩ := hb
      refine cw_ ?_
      (walk_at "ae1f83bb8"; walk_at "ad25b13d2"; walk_at "afef05d44")
      refine which_ (i := 5) rfl rfl hB fun H2 e2 => ?_
      (walk_at "ae1f83bb8"; walk_at "ad15d6c32"; walk_at "afef05d44"; walk_at "a0139b3e0"; walk_at "a8f7cfc14")
      rename_i p3 H3 h1 h2 h3
      exact k H3 p3 (Ex.trans e2 h2) (e2.back h1) h3
    · cases hi
      refine ⟨false, c0, fun z => absurd z (by decide), fun _ => ?_⟩
      refine ⟨true, c1, fun _ a na => ?_, fun z => absurd z (by decide)⟩
      dsimp only at hb k xf ⊢
      (walk_at "a3d76496c"; walk_at "ac39ddb8c"; walk_at "ab6f4d09a"; walk_at "ae1f83bb8")
      obtain ⟨rfl, rfl⟩ := hb
      refine cw_ ?_
      (walk_at "ae1f83bb8"; walk_at "ad25b13d2"; walk_at "afef05d44")
      refine which_ (i := 6) rfl rfl hB fun H2 e2 => ?_
      (walk_at "ae1f83bb8"; walk_at "ad15d6c32"; walk_at "afef05d44"; walk_at "a0139b3e0"; walk_at "a8f7cfc14")
      rename_i p3 H3 h1 h2 h3
      exact k H3 p3 (Ex.trans e2 h2) (e2.back h1) h3
    · cases hi
      refine ⟨false, c0, fun z => absurd z (by decide), fun _ => ?_⟩
      refine ⟨false, c1, fun z => absurd z (by decide), fun _ => ?_⟩
      refine ⟨false, c2, fun z => absurd z (by decide), fun _ => ?_⟩
      refine ⟨false, c3, fun z => absurd z (by decide), fun _ => ?_⟩
      refine ⟨true, c4, fun _ a na => ?_, fun z => absurd z (by decide)⟩
      dsimp only at hb k xf ⊢
      (walk_at "a3d76496c"; walk_at "ac39ddb8c"; walk_at "ab6f4d09a"; walk_at "ae1f83bb8")
      refine cw_ ?_
      (walk_at "ae1f83bb8"; walk_at "ad25b13d2"; walk_at "afef05d44")
      refine which_ (i := 7) rfl rfl hB fun H2 e2 => ?_
      (walk_at "ae1f83bb8")
      refine xf_ xf (rk.no _ rfl) rfl (hb.up e2) ?_
      (walk_at "afef05d44"; walk_at "a0139b3e0"; walk_at "a8f7cfc14")
      rename_i p3 H3 h1 h2 h3
      exact k H3 p3 (Ex.trans e2 h2) (e2.back h1) h3
    · cases hi
      refine ⟨true, c0, fun _ a na => ?_, fun z => absurd z (by decide)⟩
      dsimp only at hb k xf ⊢
      (walk_at "a3d76496c"; walk_at "ac39ddb8c"; walk_at "ab6f4d09a"; walk_at "ae1f83bb8")
      refine cw_ ?_
      (walk_at "ae1f83bb8"; walk_at "ad25b13d2"; walk_at "afef05d44")
      refine which_ (i := 8) rfl rfl hB fun H2 e2 => ?_
      (walk_at "ae1f83bb8")
      refine xf_ xf (rk.no _ rfl) rfl (hb.up e2) ?_
      (walk_at "afef05d44"; walk_at "a0139b3e0"; walk_at "a8f7cfc14")
      rename_i p3 H3 h1 h2 h3
      exact k H3 p3 (Ex.trans e2 h2) (e2.back h1) h3
    · cases hi
      refine ⟨false, c0, fun z => absurd z (by decide), fun _ => ?_⟩
      refine ⟨false, c1, fun z => absurd z (by decide), fun _ => ?_⟩
      refine ⟨true, c2, fun _ a na => ?_, fun z => absurd z (by decide)⟩
      dsimp only at hb k xf ⊢
      (walk_at "a3d76496c"; walk_at "ac39ddb8c"; walk_at "ab6f4d09a"; walk_at "ae1f83bb8")
      refine cw_ ?_
      (walk_at "ae1f83bb8"; walk_at "ad25b13d2"; walk_at "afef05d44")
      refine which_ (i := 9) rfl rfl hB fun H2 e2 => ?_
      (walk_at "ae1f83bb8")
      refine xf_ xf (rk.no _ rfl) rfl (hb.up e2) ?_
      (walk_at "afef05d44"; walk_at "a0139b3e0"; walk_at "a8f7cfc14")
      rename_i p3 H3 h1 h2 h3
      exact k H3 p3 (Ex.trans e2 h2) (e2.back h1) h3
    · cases hi
      refine ⟨false, c0, fun z => absurd z (by decide), fun _ => ?_⟩
      refine ⟨false, c1, fun z => absurd z (by decide), fun _ => ?_⟩
      refine ⟨false, c2, fun z => absurd z (by decide), fun _ => ?_⟩
      refine ⟨true, c3, fun _ a na => ?_, fun z => absurd z (by decide)⟩
      dsimp only at hb k xf ⊢
      (walk_at "a3d76496c"; walk_at "ac39ddb8c"; walk_at "ab6f4d09a"; walk_at "ae1f83bb8")
      refine cw_ ?_
      (walk_at "ae1f83bb8"; walk_at "ad25b13d2"; walk_at "afef05d44")
      refine which_ (i := 10) rfl rfl hB fun H2 e2 => ?_
      (walk_at "ae1f83bb8")
      refine xf_ xf (rk.no _ rfl) rfl (hb.up e2) ?_
      (walk_at "afef05d44"; walk_at "a0139b3e0"; walk_at "a8f7cfc14")
      rename_i p3 H3 h1 h2 h3
      exact k H3 p3 (Ex.trans e2 h2) (e2.back h1) h3
    · cases hi
      refine ⟨false, c0, fun z => absurd z (by decide), fun _ => ?_⟩
      refine ⟨true, c1, fun _ a na => ?_, fun z => absurd z (by decide)⟩
      dsimp only at hb k xf ⊢
      (walk_at "a3d76496c"; walk_at "ac39ddb8c"; walk_at "ab6f4d09a"; walk_at "ae1f83bb8")
      obtain ⟨rfl, rfl⟩ := hb
      refine cw_ ?_
      (walk_at "ae1f83bb8"; walk_at "ad25b13d2"; walk_at "afef05d44")
      refine which_ (i := 11) rfl rfl hB fun H2 e2 => ?_
      (walk_at "ae1f83bb8"; walk_at "ad15d6c32"; walk_at "afef05d44"; walk_at "a0139b3e0"; walk_at "a8f7cfc14")
      rename_i p3 H3 h1 h2 h3
      exact k H3 p3 (Ex.trans e2 h2) (e2.back h1) h3
    · cases hi
      refine ⟨false, c0, fun z => absurd z (by decide), fun _ => ?_⟩
      refine ⟨false, c1, fun z => absurd z (by decide), fun _ => ?_⟩
      refine ⟨false, c2, fun z => absurd z (by decide), fun _ => ?_⟩
      refine ⟨false, c3, fun z => absurd z (by decide), fun _ => ?_⟩
      refine ⟨false, c4, fun z => absurd z (by decide), fun _ => ?_⟩
      refine ⟨true, c5, fun _ a na => ?_, fun z => absurd z (by decide)⟩
      dsimp only at hb k xf ⊢
      (walk_at "a3d76496c"; walk_at "ac39ddb8c"; walk_at "ab6f4d09a"; walk_at "ae1f83bb8")
      refine cw_ ?_
      (walk_at "ae1f83bb8"; walk_at "ad25b13d2"; walk_at "afef05d44")
      refine which_ (i := 12) rfl rfl hB fun H2 e2 => ?_
      (walk_at "ae1f83bb8")
      refine xf_ xf (rk.no _ rfl) rfl (hb.up e2) ?_
      (walk_at "afef05d44"; walk_at "a0139b3e0"; walk_at "a8f7cfc14")
      rename_i p3 H3 h1 h2 h3
      exact k H3 p3 (Ex.trans e2 h2) (e2.back h1) h3
    · cases hi
      refine ⟨true, c0, fun _ a na => ?_, fun z => absurd z (by decide)⟩
      dsimp only at hb k xf ⊢
      (walk_at "a3d76496c"; walk_at "ac39ddb8c"; walk_at "ab6f4d09a"; walk_at "ae1f83bb8")
      refine cw_ ?_
      (walk_at "ae1f83bb8"; walk_at "ad25b13d2"; walk_at "afef05d44")
      refine which_ (i := 13) rfl rfl hB fun H2 e2 => ?_
      (walk_at "ae1f83bb8")
      refine xf_ xf (rk.no _ rfl) rfl (hb.up e2) ?_
      (walk_at "afef05d44"; walk_at "a0139b3e0"; walk_at "a8f7cfc14")
      rename_i p3 H3 h1 h2 h3
      exact k H3 p3 (Ex.trans e2 h2) (e2.back h1) h3
    · cases hi
      refine ⟨false, c0, fun z => absurd z (by decide), fun _ => ?_⟩
      refine ⟨true, c1, fun _ a na => ?_, fun z => absurd z (by decide)⟩
      dsimp only at hb k xf ⊢
      (walk_at "a3d76496c"; walk_at "ac39ddb8c"; walk_at "ab6f4d09a"; walk_at "ae1f83bb8")
      obtain ⟨rfl, rfl⟩ := hb
      refine cw_ ?_
      (walk_at "ae1f83bb8"; walk_at "ad25b13d2"; walk_at "afef05d44")
      refine which_ (i := 14) rfl rfl hB fun H2 e2 => ?_
      (walk_at "ae1f83bb8"; walk_at "ad15d6c32"; walk_at "afef05d44"; walk_at "a0139b3e0"; walk_at "a8f7cfc14")
      rename_i p3 H3 h1 h2 h3
      exact k H3 p3 (Ex.trans e2 h2) (e2.back h1) h3
  · intro v H1 k
    (walk_at "afef05d44"; walk_at "a0139b3e0"; walk_at "a8f7cfc14")
    exact k _ _ (by assumption) (by assumption) (by assumption)
end
section
variable {P : Program} {w : World} {K : PySem.W.Frag} {mg : Str → Option Value} {base : Heap} {C_CountError C_NoCode C_NoBits C_NoTree C_NoPage C_NoWord C_NoTurned C_NoStretch C_NoRow C_NoPlace C_NoNode C_NoLetter C_NoDeed C_Full C_Torn C_Busy : Addr}
set_option maxHeartbeats 4000000 in
theorem ok_NoCode_init {f : Addr} {fd : FuncData} {dV kV : Value} (g : G mg)
    (F : Txt K "__init__" "NoCode.__init__" (defArgs st_NoCode_init) (defBody st_NoCode_init) (defScope st_NoCode_init) dV kV f fd)
    (TE : ErrC K C_NoCode "ValueError.__new__" "ValueError.__init__")
    (no_f : PySem.W.findIn K (.ref C_NoCode) "at" = some none)
    (gl_CountError : mg "CountError" = some (.ref C_CountError))
    (rd_CountError : PySem.W.readsIn K C_CountError (.type "type") = true)
    (ga_CountError : PySem.W.specialIn K (.ref C_CountError) "__getattribute__" = some (some (.builtin "type.__getattribute__")))
    (vV_CountError : PySem.W.findCls K (.ref C_CountError) (.type "type") "__init__" = some (.val (.builtin "ValueError.__init__"))) :
    FnG P w K mg base 1 f fd ["self", "at"] (spErr C_NoCode "at") := by
  refine z_fn F sc_NoCode_init (fun vs H Q E h => by
    obtain ⟨a, v, rfl, ha, k⟩ := h
    rfl) (fun cd A outer s H vs Q E hr ng h => ?_)
  obtain ⟨a, v, rfl, ha, k⟩ := h
  refine ⟨_, [_, _], rfl, (pss_cons (ps_expr (pe_cinit (newId := "ValueError.__new__") (initId := "ValueError.__init__") (by rfl) gl_CountError rd_CountError ga_CountError vV_CountError (pa_cons (pv 0) (pa_cons (z_str lit_0) pa_nil)) (by decide +kernel)))
      (pss_one (ps_errS (newId := "ValueError.__new__") (initId := "ValueError.__init__") (pv 0) (pv 1)))), ?_⟩
  (walk_at "a29d25caa"; walk_at "a1994a4b5"; walk_at "ae1f83bb8"; walk_at "ad25b13d2"; walk_at "ae1f83bb8"; walk_at "ad15d6c32"; walk_at "afef05d44"; walk_at "a0205dc8a"; walk_at "a02880656"; walk_at "ad25b13d2"; walk_at "ad25b13d2"; walk_at "ac74702f2"; walk_at "a28557e3a")
  rename_i dx nd ne
  exact k _ nd ne
end
section
variable {P : Program} {w : World} {K : PySem.W.Frag} {mg : Str → Option Value} {base : Heap} {C_CountError C_NoCode C_NoBits C_NoTree C_NoPage C_NoWord C_NoTurned C_NoStretch C_NoRow C_NoPlace C_NoNode C_NoLetter C_NoDeed C_Full C_Torn C_Busy : Addr}
set_option maxHeartbeats 4000000 in
theorem ok_read_plain {f : Addr} {fd : FuncData} {dV kV : Value} (g : G mg)
    (F : Txt K "read_plain" "read_plain" (defArgs st_read_plain) (defBody st_read_plain) (defScope st_read_plain) dV kV f fd)
    (X_NoCode : MkErr P w K mg base 1 "NoCode" C_NoCode "at") :
    FnG P w K mg base 3 f fd ["text"] (sp_read_plain C_NoCode) := by
  refine z_fn F sc_read_plain (fun vs H Q E h => by
    obtain ⟨l, L, rfl, s, hl, k1, k2⟩ := h
    rfl) (fun cd A outer s H vs Q E hr ng h => ?_)
  obtain ⟨l, L, rfl, s, hl, k1, k2⟩ := h
  obtain ⟨_, c_BITS⟩ := g.c_BITS
  obtain ⟨_, c_MOST_BITS⟩ := g.c_MOST_BITS
  refine ⟨_, [_, none, none], rfl, (pss_cons (ps_for (passes_of rfl) rfl (z_enumKS (by rfl) g.b_enumerate (pa_cons (pe_slice (k_sl (K := K)) (pv 0) (po_some pe_int) po_none) pa_nil) (pk_cons pe_int pk_nil)) (k_tup (K := K) (n := 2) (by rfl) (pgs_cons (pg_name (i := 1) sc_read_plain.nd rfl (Or.inl rfl)) (pgs_cons (pg_name (i := 2) sc_read_plain.nd rfl (Or.inl rfl)) pgs_nil))) (pss_one (ps_if (PW.pt (pw_or (pt_cmpR (k_ni (K := K)) (pv 2) (pe_glob (v := T [48, 49]) (by rfl) c_BITS ⟨_, rfl⟩) rfl) (pw_or1 (pt_cmpR z_gt (pv 1) (pe_glob (v := .int 64) (by rfl) c_MOST_BITS ⟨_, rfl⟩) (nomark _))))) (pss_one (ps_raiseE rfl (takes_ rfl rfl rfl rfl) X_NoCode (hr.mono (by decide)) ng (by rfl) (pa_cons (pv 1) pa_nil))) pss_nil)))
      (pss_cons (ps_if (pt_cmpR (k_eq (K := K) hr.units) (pe_callB (k_len (K := K)) (by rfl) g.b_len bt_len (pa_cons (pv 0) pa_nil)) pe_int (nomark _)) (pss_one (ps_raiseE rfl (takes_ rfl rfl rfl rfl) X_NoCode (hr.mono (by decide)) ng (by rfl) (pa_cons pe_int pa_nil))) pss_nil)
      (pss_one (ps_ret (pe_slice (k_sl (K := K)) (pv 0) (po_some pe_int) po_none))))), ?_⟩
  have ecut : cut (112 :: l) (some 1) none = l := by rw [cut_from _ _ (by omega)]; rfl
  (walk_at "a1fccfa88"; walk_at "a33ef3711"; walk_at "ae1f83bb8"; walk_at "a1e0e6469"; walk_at "ad25b13d2"; walk_at "a0ebae3b6"; walk_at "ad15d6c32"; walk_at "a6a11b937"; walk_at "a67128e29"; walk_at "a55f8cc73"; walk_at "afef05d44"; walk_at "ae1f83bb8"; walk_at "ad15d6c32"; walk_at "afef05d44"; walk_at "a26bb9237")
  rw [ecut]
  refine forEnT (fun i σ H' => ∃ v w : Option V, σ = [some (T (112 :: l)), v, w] ∧ S L H' ∧ Bits (l.take i) ∧ i ≤ 64) ⟨none, none, rfl, s, fun c hc => (nomatch hc), by omega⟩ ?_ ?_
  · rintro i c σ H2 H3 hc ⟨v, w, rfl, s2, hb, hi⟩ hx
    have s3 := s2.up hx
    clear s s2
    by_cases hb2 : c = 48 ∨ c = 49
    · have hmem : c ∈ [48, 49] := by
        rcases hb2 with z | z
        · rw [z]; simp
        · rw [z]; simp
      by_cases q : 64 ≤ i
      · have q2 : (1 : Int) + (i : Nat) > 64 := by omega
        (walk_at "a3d76496c"; walk_at "ae44f4543"; walk_at "a2c422e4c"; walk_at "a668f72f2"; walk_at "a2c441c41"; walk_at "ad25b13d2"; walk_at "ad15d6c32"; walk_at "a9fc98b3a"; walk_at "a8a699a1b"; walk_at "a77f3ebce"; walk_at "a668f72f2"; walk_at "a2c441c41"; walk_at "ad25b13d2"; walk_at "ad15d6c32"; walk_at "a2251479c"; walk_at "a8a699a1b"; walk_at "a1699f3be"; walk_at "a56bcd408"; walk_at "ae1f83bb8"; walk_at "ad25b13d2"; walk_at "afef05d44"; walk_at "a76940847")
        rename_i d H4 nd he hd
        have e := k2 (i + 1) (err_p hb hi hc (.inr q)) d H4
        rw [show ((i + 1 : Nat) : Int) = 1 + (i : Int) by omega] at e
        exact e (s3.new nd he hd)
      · have q2 : ¬ (1 : Int) + (i : Nat) > 64 := by omega
        (walk_at "a3d76496c"; walk_at "ae44f4543"; walk_at "a2c422e4c"; walk_at "a668f72f2"; walk_at "a2c441c41"; walk_at "ad25b13d2"; walk_at "ad15d6c32"; walk_at "a9fc98b3a"; walk_at "a8a699a1b"; walk_at "a77f3ebce"; walk_at "a668f72f2"; walk_at "a2c441c41"; walk_at "ad25b13d2"; walk_at "ad15d6c32"; walk_at "a2251479c"; walk_at "a8a699a1b"; walk_at "a1fcbcf3e"; walk_at "a3cf0dcf0"; walk_at "a28557e3a")
        exact ⟨_, _, rfl, by assumption, bits_snoc hb hc hb2, by omega⟩
    · have hmem : c ∉ [48, 49] := by simpa using hb2
      (walk_at "a3d76496c"; walk_at "ae44f4543"; walk_at "a2c422e4c"; walk_at "a668f72f2"; walk_at "a2c441c41"; walk_at "ad25b13d2"; walk_at "ad15d6c32"; walk_at "a9fc98b3a"; walk_at "a8a699a1b"; walk_at "a3dfc9c4b"; walk_at "a259846d4"; walk_at "a56bcd408"; walk_at "ae1f83bb8"; walk_at "ad25b13d2"; walk_at "afef05d44"; walk_at "a76940847")
      rename_i d H4 nd he hd
      have e := k2 (i + 1) (err_p hb hi hc (.inl hb2)) d H4
      rw [show ((i + 1 : Nat) : Int) = 1 + (i : Int) by omega] at e
      exact e (s3.new nd he hd)
  · rintro σ H2 ⟨v, w, rfl, s2, hb, hi⟩
    rw [List.take_length] at hb
    clear s
    rcases l with _ | ⟨c, l⟩
    · (walk_at "a4584bbba"; walk_at "a668f72f2"; walk_at "a2c441c41"; walk_at "a33f2f4b5"; walk_at "ae1f83bb8"; walk_at "ad25b13d2"; walk_at "afef05d44"; walk_at "a6ebb81e6"; walk_at "ad15d6c32"; walk_at "ab84a1bc3"; walk_at "a8a699a1b"; walk_at "a1699f3be"; walk_at "a56bcd408"; walk_at "ae1f83bb8"; walk_at "ad15d6c32"; walk_at "afef05d44"; walk_at "a76940847")
      rename_i d H4 nd he hd
      exact k2 1 err_p0 d H4 (s2.new nd he hd)
    · have htl : (112 :: c :: l).length = l.length + 2 := rfl
      rw [List.length_cons] at hl
      (walk_at "a4584bbba"; walk_at "a668f72f2"; walk_at "a2c441c41"; walk_at "a33f2f4b5"; walk_at "ae1f83bb8"; walk_at "ad25b13d2"; walk_at "afef05d44"; walk_at "a6ebb81e6"; walk_at "ad15d6c32"; walk_at "ab84a1bc3"; walk_at "a8a699a1b"; walk_at "a1fcbcf3e"; walk_at "a3cf0dcf0"; walk_at "ac39ddb8c"; walk_at "a1e0e6469"; walk_at "ad25b13d2"; walk_at "a0ebae3b6"; walk_at "ad15d6c32"; walk_at "a6a11b937"; walk_at "a67128e29"; walk_at "a55f8cc73"; walk_at "a8f7cfc14")
      rw [ecut]
      exact k1 (ok_p hb hi (by simp)) _ (by assumption)
end
section
variable {P : Program} {w : World} {K : PySem.W.Frag} {mg : Str → Option Value} {base : Heap} {C_CountError C_NoCode C_NoBits C_NoTree C_NoPage C_NoWord C_NoTurned C_NoStretch C_NoRow C_NoPlace C_NoNode C_NoLetter C_NoDeed C_Full C_Torn C_Busy : Addr}
set_option maxHeartbeats 4000000 in
theorem ok_read_number {f : Addr} {fd : FuncData} {dV kV : Value} (g : G mg)
    (F : Txt K "read_number" "read_number" (defArgs st_read_number) (defBody st_read_number) (defScope st_read_number) dV kV f fd)
    (X_NoCode : MkErr P w K mg base 1 "NoCode" C_NoCode "at") :
    FnG P w K mg base 3 f fd ["text", "at", "room"] (sp_read_number C_NoCode) := by
  refine z_fn F sc_read_number (fun vs H Q E h => by
    obtain ⟨b, k, A, r, i, room, L, rfl, s, rfl, hroom, hb, hbk, hck, hA, hne, hl, k1, k2⟩ := h
    rfl) (fun cd A outer s H vs Q E hr ng h => ?_)
  obtain ⟨b, k, A, r, i, room, L, rfl, s, rfl, hroom, hb, hbk, hck, hA, hne, hl, k1, k2⟩ := h
  obtain ⟨_, c_BITS⟩ := g.c_BITS
  refine ⟨_, [_, _, _, none, none, none], rfl, (pss_cons (ps_set (i := 3) sc_read_number.nd rfl (Or.inl rfl) pe_int)
      (pss_cons (ps_while (passes_of rfl) (PW.pt (pw_and (pt_cmpR (k_eq (K := K) hr.units) (pe_slice (k_sl (K := K)) (pv 0) (po_some (pv 1)) (po_some (pe_op (k_add (K := K)) (pv 1) pe_int))) (z_str lit_12) (nomark _)) (pw_and1 (pt_cmpR z_le (pe_op z_mul pe_int (pv 3)) (pv 2) (nomark _))))) (pss_cons (ps_aug (i := 3) sc_read_number.nd rfl (Or.inl rfl) pe_int z_imul)
      (pss_one (ps_aug (i := 1) sc_read_number.nd rfl (Or.inl rfl) pe_int z_iadd))))
      (pss_cons (ps_if (PW.pt (pw_or (pt_cmpR (k_ne (K := K) hr.units) (pe_slice (k_sl (K := K)) (pv 0) (po_some (pv 1)) (po_some (pe_op (k_add (K := K)) (pv 1) pe_int))) (z_str lit_11) (nomark _)) (pw_or1 (pt_cmpR z_gt (pv 3) (pv 2) (nomark _))))) (pss_one (ps_raiseE rfl (takes_ rfl rfl rfl rfl) X_NoCode (hr.mono (by decide)) ng (by rfl) (pa_cons (pv 1) pa_nil))) pss_nil)
      (pss_cons (ps_set (i := 4) sc_read_number.nd rfl (Or.inl rfl) pe_int)
      (pss_cons (ps_while (passes_of rfl) (pt_cmpR z_gt (pv 3) pe_int (nomark _)) (pss_cons (ps_set (i := 5) sc_read_number.nd rfl (Or.inl rfl) (pe_slice (k_sl (K := K)) (pv 0) (po_some (pv 1)) (po_some (pe_op (k_add (K := K)) (pv 1) pe_int))))
      (pss_cons (ps_if (PW.pt (pw_or (pt_cmpR (k_eq (K := K) hr.units) (pv 5) (z_str lit_10) (nomark _)) (pw_or1 (pt_cmpR (k_ni (K := K)) (pv 5) (pe_glob (v := T [48, 49]) (by rfl) c_BITS ⟨_, rfl⟩) rfl)))) (pss_one (ps_raiseE rfl (takes_ rfl rfl rfl rfl) X_NoCode (hr.mono (by decide)) ng (by rfl) (pa_cons (pv 1) pa_nil))) pss_nil)
      (pss_cons (ps_set (i := 4) sc_read_number.nd rfl (Or.inl rfl) (pe_op (k_add (K := K)) (pe_op z_mul pe_int (pv 4)) (pe_callTy z_int_of (by rfl) g.b_int bt_int (pa_cons (pv 5) pa_nil))))
      (pss_cons (ps_if (pt_cmpR z_gt (pe_op z_mul (pv 4) (pv 3)) (pv 2) (nomark _)) (pss_one (ps_raiseE rfl (takes_ rfl rfl rfl rfl) X_NoCode (hr.mono (by decide)) ng (by rfl) (pa_cons (pv 1) pa_nil))) pss_nil)
      (pss_cons (ps_aug (i := 3) sc_read_number.nd rfl (Or.inl rfl) pe_int z_ifdiv)
      (pss_one (ps_aug (i := 1) sc_read_number.nd rfl (Or.inl rfl) pe_int z_iadd))))))))
      (pss_one (ps_ret (pe_tup (pa_cons (pv 4) (pa_cons (pv 1) pa_nil)))))))))), ?_⟩
  obtain ⟨t, ht⟩ : ∃ t, t = 114 :: b :: r := ⟨_, rfl⟩
  have htl : t.length = r.length + 2 := by rw [ht]; rfl
  have hat : ∀ i, t[i + 2]? = r[i]? := fun i => by rw [ht]; rfl
  have hcut : ∀ i : Nat, cut t (some ((i + 2 : Nat) : Int)) (some (((i + 2 : Nat) : Int) + 1)) = (r[i]?).toList := fun i => by rw [cut_opt, hat]
  rw [← ht] at k2 ⊢
  (walk_at "a85c4f338"; walk_at "ad15d6c32"; walk_at "a3d76496c"; walk_at "a8253931e")
  refine seq_while (fun m σ H' => ∃ j p : Nat, σ = [some (T t), some (.int ((k + j + 2 : Nat) : Int)), some (.int room), some (.int (p : Int)), none, none] ∧ p = 2 ^ j ∧ m = 64 - p ∧ (∀ i, i < j → r[k + i]? = some 48) ∧ Bits (r.take (k + j)) ∧ crun (r.take (k + j)) = .num A j ∧ (j = 0 ∨ A + 2 ^ j ≤ 64) ∧ S L H') 63 ⟨0, 1, rfl, rfl, rfl, fun i hi => absurd hi (by omega), hbk, hck, .inl rfl, s⟩ ?_
  rintro m σ H1 ⟨j, p, rfl, hp, rfl, hno, hbj, hcj, hjA, s1⟩
  clear s
  have hln := least_num hjA hA
  have hle : (crun (r.take (k + j))).least ≤ 64 := by rw [hcj]; exact hln
  have hcj1 := hcut (k + j)
  have ppos : 0 < p := by rw [hp]; exact Nat.pow_pos (by decide)
  (walk_at "a641c25ec"; walk_at "a668f72f2"; walk_at "a2c441c41"; walk_at "a1e0e6469"; walk_at "ad25b13d2"; walk_at "a0ebae3b6"; walk_at "ad25b13d2"; walk_at "a6a11b937"; walk_at "a0ebae3b6"; walk_at "a2c441c41"; walk_at "ad25b13d2"; walk_at "ad15d6c32"; walk_at "a470d4ce9"; walk_at "a6a11b937"; walk_at "a55f8cc73"; walk_at "ad15d6c32"; walk_at "ae5260597"; walk_at "a8a699a1b")
  rw [hcj1]
  refine zand_d (fun q => ?_) (fun q => ?_)
  · have hc : r[k + j]? = some 48 := by
      rcases h : r[k + j]? with _ | c
      · rw [h] at q; cases q
      · rw [h] at q; cases q; rfl
    have e2 : 2 ^ (j + 1) = p * 2 := by rw [Nat.pow_succ, hp]
    (walk_at "a668f72f2"; walk_at "a2c441c41"; walk_at "a2c441c41"; walk_at "ad15d6c32"; walk_at "ad25b13d2"; walk_at "a7bf746b0"; walk_at "ad25b13d2"; walk_at "af2623f90"; walk_at "a8a699a1b")
    refine zwh_d (fun q2 => ?_) (fun q2 => ?_)
    · (walk_at "a1fdb1a90"; walk_at "ad15d6c32"; walk_at "a70b9c554"; walk_at "a3d76496c"; walk_at "a2b221546"; walk_at "ad15d6c32"; walk_at "a66a76921"; walk_at "a3d76496c"; walk_at "a28557e3a")
      refine less_ (64 - p * 2) (by omega) ⟨j + 1, p * 2, rfl, e2.symm, rfl, fun i hi => ?_, bits_snoc hbj hc (.inl rfl), ?_, .inr (by omega), by assumption⟩
      · rcases Nat.lt_or_ge i j with z | z
        · exact hno i z
        · rw [show i = j by omega]; exact hc
      · show crun (r.take (k + j + 1)) = _
        rw [crun_take hc, hcj, step_num, if_pos rfl]
    · (walk_at "a4584bbba"; walk_at "a2c422e4c"; walk_at "a668f72f2"; walk_at "a2c441c41"; walk_at "a1e0e6469"; walk_at "ad25b13d2"; walk_at "a0ebae3b6"; walk_at "ad25b13d2"; walk_at "a6a11b937"; walk_at "a0ebae3b6"; walk_at "a2c441c41"; walk_at "ad25b13d2"; walk_at "ad15d6c32"; walk_at "a470d4ce9"; walk_at "a6a11b937"; walk_at "a55f8cc73"; walk_at "ad15d6c32"; walk_at "a5e4d02d8"; walk_at "a8a699a1b")
      rw [hcj1, hc]
      skip
      refine zor_n (fun _ => ?_) (fun q3 => absurd q3 (by decide))
      (walk_at "a259846d4"; walk_at "a56bcd408"; walk_at "ae1f83bb8"; walk_at "ad25b13d2"; walk_at "afef05d44"; walk_at "a76940847")
      rename_i d H2 nd he hd
      refine k2 (k + j + 2) ?_ d _ (S.new (by assumption) nd he hd)
      rw [ht]
      refine err_sign hb hbj hle hc (.inr ?_)
      rw [hcj, step_num, if_pos rfl]
      show 64 < (if j + 1 = 0 then A else A + 2 ^ (j + 1))
      rw [if_neg (Nat.succ_ne_zero j)]
      omega
  · refine zwh_b (fun q => nomatch q) fun _ => ?_
    (walk_at "a4584bbba"; walk_at "a2c422e4c"; walk_at "a668f72f2"; walk_at "a2c441c41"; walk_at "a1e0e6469"; walk_at "ad25b13d2"; walk_at "a0ebae3b6"; walk_at "ad25b13d2"; walk_at "a6a11b937"; walk_at "a0ebae3b6"; walk_at "a2c441c41"; walk_at "ad25b13d2"; walk_at "ad15d6c32"; walk_at "a470d4ce9"; walk_at "a6a11b937"; walk_at "a55f8cc73"; walk_at "ad15d6c32"; walk_at "a5e4d02d8"; walk_at "a8a699a1b")
    rw [hcj1]
    skip
    refine zor_n (fun q3 => ?_) (fun q3 => ?_)
    · (walk_at "a259846d4"; walk_at "a56bcd408"; walk_at "ae1f83bb8"; walk_at "ad25b13d2"; walk_at "afef05d44"; walk_at "a76940847")
      rename_i d H2 nd he hd
      refine k2 (k + j + 2) ?_ d _ (S.new (by assumption) nd he hd)
      rw [ht]
      rcases hc : r[k + j]? with _ | c
      · have hle2 := List.getElem?_eq_none_iff.mp hc
        have htk : r.take (k + j) = r := List.take_of_length_le hle2
        have hkj : k + j = r.length := by
          rcases hne with z | ⟨z, z2⟩
          · rcases Nat.eq_zero_or_pos j with w | w
            · omega
            · have := (List.getElem?_eq_some_iff.mp (hno (j - 1) (by omega))).1
              omega
          · rcases Nat.eq_zero_or_pos j with w | w
            · rw [z]; simp; omega
            · have := (List.getElem?_eq_some_iff.mp (hno (j - 1) (by omega))).1
              omega
        rw [htk] at hbj hcj hle
        rw [hkj]
        refine err_end hb hbj hle (goesR_num hcj ?_)
        rcases Nat.eq_zero_or_pos j with w | w
        · right
          rcases hne with z | ⟨z, z2⟩
          · omega
          · exact z
        · exact .inl (by omega)
      · rw [hc] at q q3
        refine err_sign hb hbj hle hc (.inl ?_)
        rintro (rfl | rfl)
        · exact q rfl
        · exact q3 rfl
    · have hc : r[k + j]? = some 49 := by
        rcases h : r[k + j]? with _ | c
        · rw [h] at q3; cases q3
        · rw [h] at q3; cases q3; rfl
      (walk_at "a668f72f2"; walk_at "a2c441c41"; walk_at "ad25b13d2"; walk_at "ad25b13d2"; walk_at "a2251479c"; walk_at "a8a699a1b")
      refine zif_d (fun q4 => ?_) (fun q4 => ?_)
      · (walk_at "a56bcd408"; walk_at "ae1f83bb8"; walk_at "ad25b13d2"; walk_at "afef05d44"; walk_at "a76940847")
        rename_i d H2 nd he hd
        refine k2 (k + j + 2) ?_ d _ (S.new (by assumption) nd he hd)
        rw [ht]
        refine err_sign hb hbj hle hc (.inr ?_)
        have hj0 : j = 0 := by
          rcases hjA with z | z
          · exact z
          · omega
        subst hj0
        rw [hcj, step_num, if_neg (by decide), if_pos rfl]
        show 64 < A + 1
        have : p = 1 := hp
        omega
      · (walk_at "a3cf0dcf0"; walk_at "a85c4f338"; walk_at "ad15d6c32"; walk_at "a3d76496c"; walk_at "a8253931e")
        have hkj := (List.getElem?_eq_some_iff.mp hc).1
        refine seq_while (fun m σ H' => ∃ (i u v : Nat) (w : Option V), σ = [some (T t), some (.int ((k + j + i + 2 : Nat) : Int)), some (.int room), some (.int (u : Int)), some (.int (v : Int)), w] ∧ i + m = j + 1 ∧ u = 2 ^ m / 2 ∧ (i = 0 → v = 0) ∧ v = bv ((r.drop (k + j)).take i) ∧ k + j + i ≤ r.length ∧ Bits (r.take (k + j + i)) ∧ crun (r.take (k + j + i)) = stA A j i v ∧ (stA A j i v).least ≤ 64 ∧ S L H') (j + 1) ⟨0, p, 0, none, rfl, Nat.zero_add _, ?_, fun _ => rfl, rfl, by omega, hbj, hcj, hln, by assumption⟩ ?_
        · rw [Nat.pow_succ, ← hp]
          first | done | omega
        rintro m σ H2 ⟨i, u, v, w, rfl, him, hu2, hv0, hv, hki, hbi, hci, hli, s2⟩
        have hcj2 := hcut (k + j + i)
        rcases m with _ | m
        · have hij : i = j + 1 := by omega
          subst hij
          have hu0 : u = 0 := by rw [hu2]
          subst hu0
          have est : stA A j (j + 1) v = .num (A + v) 0 := by unfold stA; rw [if_neg (by omega), if_pos rfl]
          rw [est] at hci hli
          have hAv : A + v ≤ 64 := hli
          have nu : NumAt r A k j v := by
            have ek : k + j + (j + 1) = k + 2 * j + 1 := by omega
            rw [ek] at hki hbi hci
            exact ⟨hno, hc, hki, hbi, hci, hAv, hv⟩
          (walk_at "a668f72f2"; walk_at "a2c441c41"; walk_at "ad25b13d2"; walk_at "ad15d6c32"; walk_at "a2251479c"; walk_at "a8a699a1b")
          refine zwh_d (fun z => absurd z (by omega)) fun _ => ?_
          (walk_at "ac39ddb8c"; walk_at "ab6f4d09a"; walk_at "ae1f83bb8"; walk_at "ad25b13d2"; walk_at "ae1f83bb8"; walk_at "ad25b13d2"; walk_at "afef05d44"; walk_at "a1d9c2e1b"; walk_at "a8f7cfc14")
          rename_i p9 H9 s9
          have e9 : (k + j + (j + 1) + 2 : Nat) = k + 2 * j + 1 + 2 := by omega
          rw [e9] at s9
          exact k1 j v nu _ _ s9
        · have hij : i ≤ j := by omega
          have hum : u = 2 ^ m := by rw [hu2, Nat.pow_succ, Nat.mul_div_cancel _ (by decide)]
          have hu0 : 0 < u := by rw [hum]; exact Nat.pow_pos (by decide)
          have hm : m = j - i := by omega
          have hle2 : (crun (r.take (k + j + i))).least ≤ 64 := by rw [hci]; exact hli
          have hpj : u ≤ 64 := by
            have h1 : 2 ^ m ≤ 2 ^ j := Nat.pow_le_pow_right (by decide) (by omega)
            rw [← hum, ← hp] at h1
            rcases hjA with z | z
            · rw [z] at hp; omega
            · omega
          have hv64 : v ≤ 64 := by
            rcases Nat.eq_zero_or_pos i with z | z
            · rw [hv0 z]; omega
            · obtain ⟨i', rfl⟩ : ∃ i', i = i' + 1 := ⟨i - 1, by omega⟩
              rw [stA_least (by omega)] at hli
              have h1 : 0 < 2 ^ (j - i') := Nat.pow_pos (by decide)
              have := Nat.le_mul_of_pos_right v h1
              omega
          (walk_at "a668f72f2"; walk_at "a2c441c41"; walk_at "ad25b13d2"; walk_at "ad15d6c32"; walk_at "a2251479c"; walk_at "a8a699a1b")
          refine zwh_d (fun _ => ?_) fun z => absurd (by omega) z
          (walk_at "a85c4f338"; walk_at "a1e0e6469"; walk_at "ad25b13d2"; walk_at "a0ebae3b6"; walk_at "ad25b13d2"; walk_at "a6a11b937"; walk_at "a0ebae3b6"; walk_at "a2c441c41"; walk_at "ad25b13d2"; walk_at "ad15d6c32"; walk_at "a470d4ce9"; walk_at "a6a11b937"; walk_at "a55f8cc73"; walk_at "a3d76496c"; walk_at "a4584bbba"; walk_at "a2c422e4c"; walk_at "a668f72f2"; walk_at "a2c441c41"; walk_at "ad25b13d2"; walk_at "ad15d6c32"; walk_at "ae5260597"; walk_at "a8a699a1b")
          rw [hcj2]
          skip
          rcases hx : r[k + j + i]? with _ | c
          · refine zor_d (fun _ => ?_) (fun q5 => absurd rfl q5)
            (walk_at "a259846d4"; walk_at "a56bcd408"; walk_at "ae1f83bb8"; walk_at "ad25b13d2"; walk_at "afef05d44"; walk_at "a76940847")
            rename_i d H3 nd he hd
            refine k2 (k + j + i + 2) ?_ d _ (S.new (by assumption) nd he hd)
            rw [ht]
            have hle3 := List.getElem?_eq_none_iff.mp hx
            have hlen : k + j + i = r.length := by omega
            have htk : r.take (k + j + i) = r := List.take_of_length_le hle3
            rw [htk] at hbi hci hle2
            rw [hlen]
            have i0 : i ≠ 0 := fun z => by
              rw [z, Nat.add_zero, hc] at hx
              cases hx
            refine err_end hb hbi hle2 ?_
            unfold stA at hci
            rw [if_neg i0, if_neg (by omega)] at hci
            exact goesR_fig hci
          · refine zor_d (fun q5 => nomatch q5) (fun _ => ?_)
            have hxl := (List.getElem?_eq_some_iff.mp hx).1
            have hc49 : i = 0 → c = 49 ∧ v = 0 := fun z => by
              rw [z, Nat.add_zero, hc] at hx
              cases hx
              exact ⟨rfl, hv0 z⟩
            have etl : (some c).toList = [c] := rfl
            rw [etl]
            by_cases hb2 : c = 48 ∨ c = 49
            · have hmem : c ∈ [48, 49] := by
                rcases hb2 with z | z
                · rw [z]; simp
                · rw [z]; simp
              have ev : 2 * ((v : Nat) : Int) + (((c : Nat) : Int) - 48) = ((2 * v + (c - 48) : Nat) : Int) := by rcases hb2 with rfl | rfl <;> omega
              have hc1 : c - 48 ≤ 1 := by rcases hb2 with z | z <;> omega
              (walk_at "a668f72f2"; walk_at "a2c441c41"; walk_at "ad25b13d2"; walk_at "ad15d6c32"; walk_at "a9fc98b3a"; walk_at "a8a699a1b"; walk_at "a61eea2e0"; walk_at "a3cf0dcf0"; walk_at "a85c4f338"; walk_at "a2c441c41"; walk_at "a2c441c41"; walk_at "ad15d6c32"; walk_at "ad25b13d2"; walk_at "a7bf746b0"; walk_at "a33f2f4b5"; walk_at "ae1f83bb8"; walk_at "ad25b13d2"; walk_at "afef05d44"; walk_at "a59380daa"; walk_at "a470d4ce9"; walk_at "a3d76496c"; walk_at "a4584bbba"; walk_at "a668f72f2"; walk_at "a2c441c41"; walk_at "a2c441c41"; walk_at "ad25b13d2"; walk_at "ad25b13d2"; walk_at "a7bf746b0"; walk_at "ad25b13d2"; walk_at "a2251479c"; walk_at "a8a699a1b")
              rw [ev]
              have ecast : ((2 * v + (c - 48) : Nat) : Int) * (u : Int) = (((2 * v + (c - 48)) * u : Nat) : Int) := (Int.natCast_mul _ _).symm
              have esl : ((crun (r.take (k + j + i))).step c).least = A + (2 * v + (c - 48)) * u := by rw [hci, stA_step hij hc49, stA_least hij, hum, hm]
              rw [ecast]
              refine zif_d (fun q6 => ?_) (fun q6 => ?_)
              · (walk_at "a56bcd408"; walk_at "ae1f83bb8"; walk_at "ad25b13d2"; walk_at "afef05d44"; walk_at "a76940847")
                rename_i d H3 nd he hd
                refine k2 (k + j + i + 2) ?_ d _ (S.new (by assumption) nd he hd)
                rw [ht]
                refine err_sign hb hbi hle2 hx (.inr ?_)
                omega
              · have et : crun (r.take (k + j + i + 1)) = stA A j (i + 1) (2 * v + (c - 48)) := by rw [crun_take hx, hci, stA_step hij hc49]
                (walk_at "a3cf0dcf0"; walk_at "a1fdb1a90"; walk_at "ad15d6c32"; walk_at "a503841f1"; walk_at "a3d76496c"; walk_at "a2b221546"; walk_at "ad15d6c32"; walk_at "a66a76921"; walk_at "a3d76496c"; walk_at "a28557e3a")
                refine less_ m (by omega) ⟨i + 1, u / 2, 2 * v + (c - 48), some (T [c]), rfl, by omega, ?_, fun z => absurd z (by omega), ?_, by omega, bits_snoc hbi hx hb2, et, ?_, by assumption⟩
                · rw [hum]
                · rw [hv, ← bv_take (l := r.drop (k + j)) (by rw [List.getElem?_drop]; exact hx)]
                · rw [← et, crun_take hx]
                  omega
            · have hmem : c ∉ [48, 49] := by simpa using hb2
              (walk_at "a668f72f2"; walk_at "a2c441c41"; walk_at "ad25b13d2"; walk_at "ad15d6c32"; walk_at "a9fc98b3a"; walk_at "a8a699a1b"; walk_at "a0061cb3b"; walk_at "a56bcd408"; walk_at "ae1f83bb8"; walk_at "ad25b13d2"; walk_at "afef05d44"; walk_at "a76940847")
              rename_i d H3 nd he hd
              refine k2 (k + j + i + 2) ?_ d _ (S.new (by assumption) nd he hd)
              rw [ht]
              exact err_sign hb hbi hle2 hx (.inl hb2)
end
section
variable {P : Program} {w : World} {K : PySem.W.Frag} {mg : Str → Option Value} {base : Heap} {C_CountError C_NoCode C_NoBits C_NoTree C_NoPage C_NoWord C_NoTurned C_NoStretch C_NoRow C_NoPlace C_NoNode C_NoLetter C_NoDeed C_Full C_Torn C_Busy : Addr}
set_option maxHeartbeats 4000000 in
theorem ok_other_bit {f : Addr} {fd : FuncData} {dV kV : Value} (g : G mg)
    (F : Txt K "other_bit" "other_bit" (defArgs st_other_bit) (defBody st_other_bit) (defScope st_other_bit) dV kV f fd) :
    FnG P w K mg base 1 f fd ["bit"] (sp_other_bit) := by
  refine z_fn F sc_other_bit (fun vs H Q E h => by
    obtain ⟨c, rfl, hb, k⟩ := h
    rfl) (fun cd A outer s H vs Q E hr ng h => ?_)
  obtain ⟨c, rfl, hb, k⟩ := h
  refine ⟨_, [_], rfl, (pss_one (ps_ret (pe_ifExp (pt_cmpR (k_eq (K := K) hr.units) (pv 0) (z_str lit_12) (nomark _)) (z_str lit_11) (z_str lit_12)))), ?_⟩
  (walk_at "ac39ddb8c"; walk_at "a3f49daff"; walk_at "a668f72f2"; walk_at "a2c441c41"; walk_at "ad25b13d2"; walk_at "ad15d6c32"; walk_at "ae5260597"; walk_at "a8a699a1b")
  refine zife_d (fun hq => ?_) (fun hq => ?_)
  · have hq2 : c = 48 := by simpa using hq
    subst hq2
    (walk_at "ad15d6c32"; walk_at "a8f7cfc14")
    exact k
  · have hq2 : c = 49 := by
      rcases hb with z | z
      · subst z; exact absurd rfl hq
      · exact z
    subst hq2
    (walk_at "ad15d6c32"; walk_at "a8f7cfc14")
    exact k
end
section
variable {P : Program} {w : World} {K : PySem.W.Frag} {mg : Str → Option Value} {base : Heap} {C_CountError C_NoCode C_NoBits C_NoTree C_NoPage C_NoWord C_NoTurned C_NoStretch C_NoRow C_NoPlace C_NoNode C_NoLetter C_NoDeed C_Full C_Torn C_Busy : Addr}
set_option maxHeartbeats 4000000 in
theorem ok_read_runs {f : Addr} {fd : FuncData} {dV kV : Value} (g : G mg)
    (F : Txt K "read_runs" "read_runs" (defArgs st_read_runs) (defBody st_read_runs) (defScope st_read_runs) dV kV f fd)
    (X_NoCode : MkErr P w K mg base 1 "NoCode" C_NoCode "at")
    (D_read_number : Def P w K mg base 3 "read_number" [] (sp_read_number C_NoCode))
    (D_other_bit : Def P w K mg base 1 "other_bit" [] (sp_other_bit)) :
    FnG P w K mg base 4 f fd ["text"] (sp_read_runs C_NoCode) := by
  refine z_fn F sc_read_runs (fun vs H Q E h => by
    obtain ⟨l, L, rfl, s, hl, k1, k2⟩ := h
    rfl) (fun cd A outer s H vs Q E hr ng h => ?_)
  obtain ⟨l, L, rfl, s, hl, k1, k2⟩ := h
  obtain ⟨_, c_BITS⟩ := g.c_BITS
  obtain ⟨_, c_MOST_BITS⟩ := g.c_MOST_BITS
  refine ⟨_, [_, none, none, none, none], rfl, (pss_cons (ps_set (i := 1) sc_read_runs.nd rfl (Or.inl rfl) (pe_slice (k_sl (K := K)) (pv 0) (po_some pe_int) (po_some pe_int)))
      (pss_cons (ps_if (PW.pt (pw_or (pt_cmpR (k_eq (K := K) hr.units) (pv 1) (z_str lit_10) (nomark _)) (pw_or1 (pt_cmpR (k_ni (K := K)) (pv 1) (pe_glob (v := T [48, 49]) (by rfl) c_BITS ⟨_, rfl⟩) rfl)))) (pss_one (ps_raiseE rfl (takes_ rfl rfl rfl rfl) X_NoCode (hr.mono (by decide)) ng (by rfl) (pa_cons pe_int pa_nil))) pss_nil)
      (pss_cons (ps_set (i := 2) sc_read_runs.nd rfl (Or.inl rfl) (z_str lit_10))
      (pss_cons (ps_set (i := 3) sc_read_runs.nd rfl (Or.inl rfl) pe_int)
      (pss_cons (ps_while (passes_of rfl) (PW.pt (pw_or (pt_cmpR (k_eq (K := K) hr.units) (pv 2) (z_str lit_10) (nomark _)) (pw_or1 (pt_cmpR z_lt (pv 3) (pe_callB (k_len (K := K)) (by rfl) g.b_len bt_len (pa_cons (pv 0) pa_nil)) (nomark _))))) (pss_cons (ps_asg (pe_f D_read_number (hr.mono (by decide)) ng (by rfl) (tkW (takes_ rfl rfl rfl rfl)) (pa_cons (pv 0) (pa_cons (pv 3) (pa_cons (pe_op z_sub (pe_glob (v := .int 64) (by rfl) c_MOST_BITS ⟨_, rfl⟩) (pe_callB (k_len (K := K)) (by rfl) g.b_len bt_len (pa_cons (pv 2) pa_nil))) pa_nil)))) (k_tup (K := K) (n := 2) (by rfl) (pgs_cons (pg_name (i := 4) sc_read_runs.nd rfl (Or.inl rfl)) (pgs_cons (pg_name (i := 3) sc_read_runs.nd rfl (Or.inl rfl)) pgs_nil))))
      (pss_cons (ps_aug (i := 2) sc_read_runs.nd rfl (Or.inl rfl) (pe_op z_mul (pv 1) (pv 4)) z_iadd)
      (pss_one (ps_set (i := 1) sc_read_runs.nd rfl (Or.inl rfl) (pe_f D_other_bit (hr.mono (by decide)) ng (by rfl) (tkW (takes_ rfl rfl rfl rfl)) (pa_cons (pv 1) pa_nil)))))))
      (pss_one (ps_ret (pv 2)))))))), ?_⟩
  have hcut : cut (114 :: l) (some 1) (some 2) = (l[0]?).toList := cut_opt (114 :: l) 1
  (walk_at "a85c4f338"; walk_at "a1e0e6469"; walk_at "ad25b13d2"; walk_at "a0ebae3b6"; walk_at "ad15d6c32"; walk_at "a6a11b937"; walk_at "a0ebae3b6"; walk_at "ad15d6c32"; walk_at "a6a11b937"; walk_at "a55f8cc73"; walk_at "a3d76496c"; walk_at "a4584bbba"; walk_at "a2c422e4c"; walk_at "a668f72f2"; walk_at "a2c441c41"; walk_at "ad25b13d2"; walk_at "ad15d6c32"; walk_at "ae5260597"; walk_at "a8a699a1b")
  rw [hcut]
  rcases l with _ | ⟨b, r⟩
  · skip
    refine zor_d (fun _ => ?_) (fun q => absurd rfl q)
    (walk_at "a259846d4"; walk_at "a56bcd408"; walk_at "ae1f83bb8"; walk_at "ad15d6c32"; walk_at "afef05d44"; walk_at "a76940847")
    rename_i d H4 nd he hd
    exact k2 1 err_r0 d H4 (S.new (by assumption) nd he hd)
  · have etl : ((b :: r)[0]?).toList = [b] := rfl
    rw [etl]
    skip
    refine zor_d (fun q => nomatch q) (fun _ => ?_)
    by_cases hb : b = 48 ∨ b = 49
    · have hmem : b ∈ [48, 49] := by
        rcases hb with z | z
        · rw [z]; simp
        · rw [z]; simp
      have hrl : r.length ≤ 99999 := by rw [List.length_cons] at hl; omega
      (walk_at "a668f72f2"; walk_at "a2c441c41"; walk_at "ad25b13d2"; walk_at "ad15d6c32"; walk_at "a9fc98b3a"; walk_at "a8a699a1b"; walk_at "a61eea2e0"; walk_at "a3cf0dcf0"; walk_at "a85c4f338"; walk_at "ad15d6c32"; walk_at "a3d76496c"; walk_at "a85c4f338"; walk_at "ad15d6c32"; walk_at "a3d76496c"; walk_at "a8253931e")
      refine seq_while (fun m σ H' => ∃ (k A f b' : Nat) (fd : List Nat) (v : Option V), σ = [some (T (114 :: b :: r)), some (T [b']), some (T fd), some (.int ((k + 2 : Nat) : Int)), v] ∧ m = r.length - k ∧ k ≤ r.length ∧ (b' = 48 ∨ b' = 49) ∧ Bits (r.take k) ∧ crun (r.take k) = .num A 0 ∧ A ≤ 64 ∧ fd.length = A ∧ (k = 0 → fd = []) ∧ (0 < k → 0 < A) ∧ r.length - k ≤ f ∧ fd ++ dec f b' (r.drop k) = dec r.length b r ∧ S L H') r.length ⟨0, 0, r.length, b, [], none, rfl, rfl, Nat.zero_le _, hb, fun c hc => (nomatch hc), rfl, by omega, rfl, fun _ => rfl, fun z => absurd z (by omega), Nat.le_refl _, rfl, by assumption⟩ ?_
      rintro m σ H1 ⟨k, A, f, b', fd, v, rfl, rfl, hk, hb', hbk, hck, hA, hfl, hf0, hA0, hf, hdec, s1⟩
      clear s
      have htl : (114 :: b :: r).length = r.length + 2 := rfl
      (walk_at "a2c422e4c"; walk_at "a668f72f2"; walk_at "a2c441c41"; walk_at "ad25b13d2"; walk_at "ad15d6c32"; walk_at "ae5260597"; walk_at "a8a699a1b")
      refine zor_d (fun q => ?_) (fun q => ?_)
      · refine zwh_b (fun _ => ?_) (fun z => nomatch z)
        have k0 : k = 0 := by
          rcases Nat.eq_zero_or_pos k with z | z
          · exact z
          · have := hA0 z
            rw [← hfl, q] at this
            exact absurd this (by decide)
        have hgo : k < r.length ∨ (r = [] ∧ k = 0) := by
          rcases r with _ | ⟨c, r⟩
          · exact .inr ⟨rfl, k0⟩
          · left; rw [List.length_cons]; omega
        (walk_at "a43bf46d2"; walk_at "acdbb3963"; walk_at "ae1f83bb8"; walk_at "ad25b13d2"; walk_at "ae1f83bb8"; walk_at "ad25b13d2"; walk_at "ae1f83bb8"; walk_at "a2c441c41"; walk_at "ad15d6c32"; walk_at "a33f2f4b5"; walk_at "ae1f83bb8"; walk_at "ad25b13d2"; walk_at "afef05d44"; walk_at "a6ebb81e6"; walk_at "a8c4e17e3"; walk_at "afef05d44")
        refine cx_read_number (b := b) (k := k) (A := A) (r := r) (by assumption) rfl (by rw [hfl]) hb hbk hck hA hgo (by omega) (fun j u nu p H9 s9 => ?_) k2
        have hup := nu.pos
        have hulen := nu.len
        have hufew := nu.few
        obtain ⟨f, rfl⟩ : ∃ f', f = f' + 1 := ⟨f - 1, by omega⟩
        rw [nu.dec, ← List.append_assoc] at hdec
        have hrep : rep [b'] (u : Int).toNat = List.replicate u b' := by rw [Int.toNat_natCast, rep_one]
        have hfd2 : (fd ++ List.replicate u b').length = A + u := by rw [List.length_append, List.length_replicate, hfl]
        have hob : oBit b' = 48 ∨ oBit b' = 49 := by unfold oBit; split; exact .inr rfl; exact .inl rfl
        have hobe : oBit b' = 97 - b' := by rcases hb' with rfl | rfl <;> rfl
        clear s1
        (walk_at "afbecc87a"; walk_at "a54305b80"; walk_at "a3beb7cd4"; walk_at "a54305b80"; walk_at "a3beb7cd4"; walk_at "abc6e375f"; walk_at "a3d76496c"; walk_at "a1fdb1a90"; walk_at "a2c441c41"; walk_at "ad25b13d2"; walk_at "ad25b13d2"; walk_at "a1d30e24a"; walk_at "a8f3de42f"; walk_at "a3d76496c"; walk_at "a7f6d4dcc"; walk_at "acdbb3963"; walk_at "ae1f83bb8"; walk_at "ad25b13d2"; walk_at "afef05d44"; walk_at "a46806286"; walk_at "a3d76496c"; walk_at "a28557e3a")
        rw [hrep, ← hobe]
        exact less_ (r.length - (k + 2 * j + 1)) (by omega) ⟨k + 2 * j + 1, A + u, f, oBit b', fd ++ List.replicate u b', _, rfl, rfl, by omega, hob, nu.bits, nu.run, hufew, hfd2, fun z => absurd z (by omega), fun _ => by omega, by omega, hdec, s9.to (.drop .refl)⟩
      · (walk_at "a668f72f2"; walk_at "a2c441c41"; walk_at "ad25b13d2"; walk_at "a33f2f4b5"; walk_at "ae1f83bb8"; walk_at "ad25b13d2"; walk_at "afef05d44"; walk_at "a6ebb81e6"; walk_at "a3d0fbaf8"; walk_at "a8a699a1b")
        refine zwh_d (fun q2 => ?_) (fun q2 => ?_)
        · have hgo : k < r.length ∨ (r = [] ∧ k = 0) := .inl (by omega)
          (walk_at "a43bf46d2"; walk_at "acdbb3963"; walk_at "ae1f83bb8"; walk_at "ad25b13d2"; walk_at "ae1f83bb8"; walk_at "ad25b13d2"; walk_at "ae1f83bb8"; walk_at "a2c441c41"; walk_at "ad15d6c32"; walk_at "a33f2f4b5"; walk_at "ae1f83bb8"; walk_at "ad25b13d2"; walk_at "afef05d44"; walk_at "a6ebb81e6"; walk_at "a8c4e17e3"; walk_at "afef05d44")
          refine cx_read_number (b := b) (k := k) (A := A) (r := r) (by assumption) rfl (by rw [hfl]) hb hbk hck hA hgo (by omega) (fun j u nu p H9 s9 => ?_) k2
          have hup := nu.pos
          have hulen := nu.len
          have hufew := nu.few
          obtain ⟨f, rfl⟩ : ∃ f', f = f' + 1 := ⟨f - 1, by omega⟩
          rw [nu.dec, ← List.append_assoc] at hdec
          have hrep : rep [b'] (u : Int).toNat = List.replicate u b' := by rw [Int.toNat_natCast, rep_one]
          have hfd2 : (fd ++ List.replicate u b').length = A + u := by rw [List.length_append, List.length_replicate, hfl]
          have hob : oBit b' = 48 ∨ oBit b' = 49 := by unfold oBit; split; exact .inr rfl; exact .inl rfl
          have hobe : oBit b' = 97 - b' := by rcases hb' with rfl | rfl <;> rfl
          clear s1
          (walk_at "afbecc87a"; walk_at "a54305b80"; walk_at "a3beb7cd4"; walk_at "a54305b80"; walk_at "a3beb7cd4"; walk_at "abc6e375f"; walk_at "a3d76496c"; walk_at "a1fdb1a90"; walk_at "a2c441c41"; walk_at "ad25b13d2"; walk_at "ad25b13d2"; walk_at "a1d30e24a"; walk_at "a8f3de42f"; walk_at "a3d76496c"; walk_at "a7f6d4dcc"; walk_at "acdbb3963"; walk_at "ae1f83bb8"; walk_at "ad25b13d2"; walk_at "afef05d44"; walk_at "a46806286"; walk_at "a3d76496c"; walk_at "a28557e3a")
          rw [hrep, ← hobe]
          exact less_ (r.length - (k + 2 * j + 1)) (by omega) ⟨k + 2 * j + 1, A + u, f, oBit b', fd ++ List.replicate u b', _, rfl, rfl, by omega, hob, nu.bits, nu.run, hufew, hfd2, fun z => absurd z (by omega), fun _ => by omega, by omega, hdec, s9.to (.drop .refl)⟩
        · have hkr : k = r.length := by omega
          have hr0 : r ≠ [] := fun e => q (hf0 (by rw [hkr, e]; rfl))
          rw [hkr, List.take_length] at hbk hck
          have hd0 : r.drop k = [] := by rw [hkr]; exact List.drop_length
          rw [hd0, dec_nil, List.append_nil] at hdec
          subst hdec
          (walk_at "ac39ddb8c"; walk_at "ad25b13d2"; walk_at "a8f7cfc14")
          exact k1 (ok_runs hb hbk hck hA hr0) _ (by assumption)
    · have hmem : b ∉ [48, 49] := by simpa using hb
      (walk_at "a668f72f2"; walk_at "a2c441c41"; walk_at "ad25b13d2"; walk_at "ad15d6c32"; walk_at "a9fc98b3a"; walk_at "a8a699a1b"; walk_at "a0061cb3b"; walk_at "a56bcd408"; walk_at "ae1f83bb8"; walk_at "ad15d6c32"; walk_at "afef05d44"; walk_at "a76940847")
      rename_i d H4 nd he hd
      exact k2 1 (err_r1 hb) d H4 (S.new (by assumption) nd he hd)
end
section
variable {P : Program} {w : World} {K : PySem.W.Frag} {mg : Str → Option Value} {base : Heap} {C_CountError C_NoCode C_NoBits C_NoTree C_NoPage C_NoWord C_NoTurned C_NoStretch C_NoRow C_NoPlace C_NoNode C_NoLetter C_NoDeed C_Full C_Torn C_Busy : Addr}
set_option maxHeartbeats 4000000 in
theorem ok_read_code {f : Addr} {fd : FuncData} {dV kV : Value} (g : G mg)
    (F : Txt K "read_code" "read_code" (defArgs st_read_code) (defBody st_read_code) (defScope st_read_code) dV kV f fd)
    (X_NoCode : MkErr P w K mg base 1 "NoCode" C_NoCode "at")
    {a_READERS f1 f2 : Addr} (c_READERS : mg "READERS" = some (.ref a_READERS))
    (kd1 : KD K w a_READERS ⟨([112] : List Nat).toArray⟩ (some (.ref f1))) (kd2 : KD K w a_READERS ⟨([114] : List Nat).toArray⟩ (some (.ref f2)))
    (k3 : ∀ z : List Nat, z ≠ [112] → z ≠ [114] → KD K w a_READERS ⟨z.toArray⟩ none)
    (A_reader : ∀ f sp, S_read_code C_NoCode f1 f2 f sp → HeldG P w K mg base 4 f sp) :
    FnG P w K mg base 5 f fd ["text"] (sp_read_code C_NoCode) := by
  refine z_fn F sc_read_code (fun vs H Q E h => by
    obtain ⟨v, L, rfl, s, h⟩ := h
    rfl) (fun cd A outer s H vs Q E hr ng h => ?_)
  obtain ⟨v, L, rfl, s, h⟩ := h
  refine ⟨_, [_, none], rfl, (pss_cons (ps_if (pt_not (pt_val (pe_callB (k_isi (K := K)) (by rfl) g.b_isinstance bt_isinstance (pa_cons (pv 0) (pa_cons (pe_bltn (v := .ty "str") (by rfl) g.b_str bt_str rfl) pa_nil))))) (pss_one (ps_raiseE rfl (takes_ rfl rfl rfl rfl) X_NoCode (hr.mono (by decide)) ng (by rfl) (pa_cons pe_non pa_nil))) pss_nil)
      (pss_cons (ps_if (pt_cmpR z_niKD (pe_slice (k_sl (K := K)) (pv 0) po_none (po_some pe_int)) (pe_glob (v := .ref a_READERS) (by rfl) c_READERS rfl) rfl) (pss_one (ps_raiseE rfl (takes_ rfl rfl rfl rfl) X_NoCode (hr.mono (by decide)) ng (by rfl) (pa_cons pe_int pa_nil))) pss_nil)
      (pss_cons (ps_set (i := 1) sc_read_code.nd rfl (Or.inl rfl) (pe_ix z_ixKD (pe_glob (v := .ref a_READERS) (by rfl) c_READERS rfl) (pe_ix (k_ix (K := K)) (pv 0) pe_int (fun _ _ => rfl)) (fun _ _ => rfl)))
      (pss_one (ps_ret (pe_callV (i := 1) A_reader (hr.mono (by decide)) ng rfl (.inl rfl) (tkW (takes_ rfl rfl rfl rfl)) (pa_cons (pv 0) pa_nil))))))), ?_⟩
  rcases h with ⟨x, rfl, hl, k1, k2⟩ | ⟨ho, ko⟩
  · have hcut : cut x none (some 1) = x.take 1 := by rw [cut_to _ _ (by omega)]; rfl
    (walk_at "a4584bbba"; walk_at "a35e1d11b"; walk_at "a5ca36a29"; walk_at "a33f2f4b5"; walk_at "ae1f83bb8"; walk_at "ad25b13d2"; walk_at "ae1f83bb8"; walk_at "ad15d6c32"; walk_at "afef05d44"; walk_at "af08ba47b"; walk_at "a8a699a1b"; walk_at "a539a4fa3"; walk_at "a3cf0dcf0"; walk_at "a4584bbba"; walk_at "a668f72f2"; walk_at "a2c441c41"; walk_at "a1e0e6469"; walk_at "ad25b13d2"; walk_at "a67128e29"; walk_at "a0ebae3b6"; walk_at "ad15d6c32"; walk_at "a6a11b937"; walk_at "a55f8cc73"; walk_at "ad15d6c32")
    rw [hcut]
    rcases x with _ | ⟨c, l⟩
    · refine niKD_ (r := none) (k3 _ (by simp) (by simp)) ?_
      rw [Option.isSome_none]
      (walk_at "a8a699a1b"; walk_at "a64b801b7"; walk_at "a56bcd408"; walk_at "ae1f83bb8"; walk_at "ad15d6c32"; walk_at "afef05d44"; walk_at "a76940847")
      rename_i d H4 nd he hd
      exact k2 0 err_nil d H4 (s.new nd he hd)
    · have et : (c :: l).take 1 = [c] := rfl
      rw [et]
      have hat : atI (c :: l) 0 = some c := atI_nat (j := 0) rfl
      rw [List.length_cons] at hl
      by_cases q1 : c = 112
      · subst q1
        refine niKD_ (r := some (.ref f1)) kd1 ?_
        rw [Option.isSome_some]
        (walk_at "a8a699a1b"; walk_at "a539a4fa3"; walk_at "a3cf0dcf0"; walk_at "a85c4f338"; walk_at "a2c441c41"; walk_at "ad15d6c32"; walk_at "a2c441c41"; walk_at "ad25b13d2"; walk_at "ad15d6c32"; walk_at "a4657a1b3")
        refine ixKD_ (u0 := .ref f1) (v0 := .ref f1) kd1 rfl ?_
        (walk_at "a3d76496c"; walk_at "ac39ddb8c")
        refine callV_ (f := f1) (sp := sp_read_plain C_NoCode) rfl (.inl ⟨rfl, rfl⟩) ?_
        (walk_at "ae1f83bb8"; walk_at "ad25b13d2"; walk_at "afef05d44")
        exact cx_read_plain s (by omega) k1 k2
      · by_cases q2 : c = 114
        · subst q2
          refine niKD_ (r := some (.ref f2)) kd2 ?_
          rw [Option.isSome_some]
          (walk_at "a8a699a1b"; walk_at "a539a4fa3"; walk_at "a3cf0dcf0"; walk_at "a85c4f338"; walk_at "a2c441c41"; walk_at "ad15d6c32"; walk_at "a2c441c41"; walk_at "ad25b13d2"; walk_at "ad15d6c32"; walk_at "a4657a1b3")
          refine ixKD_ (u0 := .ref f2) (v0 := .ref f2) kd2 rfl ?_
          (walk_at "a3d76496c"; walk_at "ac39ddb8c")
          refine callV_ (f := f2) (sp := sp_read_runs C_NoCode) rfl (.inr ⟨rfl, rfl⟩) ?_
          (walk_at "ae1f83bb8"; walk_at "ad25b13d2"; walk_at "afef05d44")
          exact cx_read_runs s (by omega) k1 k2
        · refine niKD_ (r := none) (k3 _ (by simpa using q1) (by simpa using q2)) ?_
          rw [Option.isSome_none]
          (walk_at "a8a699a1b"; walk_at "a64b801b7"; walk_at "a56bcd408"; walk_at "ae1f83bb8"; walk_at "ad15d6c32"; walk_at "afef05d44"; walk_at "a76940847")
          rename_i d H4 nd he hd
          exact k2 0 (err_other q1 q2) d H4 (s.new nd he hd)
  · (walk_at "a4584bbba"; walk_at "a35e1d11b"; walk_at "a5ca36a29"; walk_at "a33f2f4b5"; walk_at "ae1f83bb8"; walk_at "ad25b13d2"; walk_at "ae1f83bb8"; walk_at "ad15d6c32"; walk_at "afef05d44")
    refine isStrO_ ho ?_
    (walk_at "a8a699a1b"; walk_at "a64b801b7"; walk_at "a56bcd408"; walk_at "ae1f83bb8"; walk_at "ad15d6c32"; walk_at "afef05d44"; walk_at "a76940847")
    rename_i d H1 nd he hd
    exact ko d H1 (s.new nd he hd)
end
section
variable {P : Program} {w : World} {K : PySem.W.Frag} {mg : Str → Option Value} {base : Heap} {C_CountError C_NoCode C_NoBits C_NoTree C_NoPage C_NoWord C_NoTurned C_NoStretch C_NoRow C_NoPlace C_NoNode C_NoLetter C_NoDeed C_Full C_Torn C_Busy : Addr}
set_option maxHeartbeats 4000000 in
theorem ok_law_looked_right {f : Addr} {fd : FuncData} {dV kV : Value} (g : G mg)
    (F : Txt K "_law_looked_right" "_law_looked_right" (defArgs st_law_looked_right) (defBody st_law_looked_right) (defScope st_law_looked_right) dV kV f fd)
    (D_law_code_due : Def P w K mg base 2 "_law_code_due" [] (sp_law_code_due))
    (D_law_told : GivT P w K mg base 1 "_law_told" (tTold (refs C_NoCode C_CountError C_NoBits C_NoTree C_NoPage C_NoWord C_NoTurned C_NoStretch C_NoRow C_NoPlace C_NoNode C_NoLetter C_NoDeed C_Full C_Torn C_Busy)))
    (D_read_code : Def P w K mg base 5 "read_code" [] (sp_read_code C_NoCode))
    (tb : Tb K mg base "_law_looked_right" f) :
    FnG P w K mg base 8 f fd ["_law_thing"] (sp_law_looked_right K) := by
  refine z_fnT tb F sc_law_looked_right (fun vs H Q E h => by
    obtain ⟨w, ws, L, rfl, hw, hsh, s, k⟩ := h
    rfl) (fun cA TB A outer s H vs Q E hr ng h => ?_)
  obtain ⟨w, ws, L, rfl, hw, hsh, s, k⟩ := h
  refine ⟨_, [_, none, none, none, none], rfl, (pss_cons (ps_par (i := 1) (j := 2) (by rfl) sc_law_looked_right.nd rfl rfl (by decide) rfl rfl (pa_cons (pe_callB (k_repr (K := K) hr.units ng) (by rfl) g.b_repr bt_repr (pa_cons (pe_f D_law_code_due (hr.mono (by decide)) ng (by rfl) (tkW (takes_ rfl rfl rfl rfl)) (pa_cons (pv 0) pa_nil)) pa_nil)) (pa_cons (pe_callB (k_repr (K := K) hr.units ng) (by rfl) g.b_repr bt_repr (pa_cons (pv 0) pa_nil)) pa_nil)) (by rfl))
      (pss_cons (ps_setLc (i := 3) (own := [("_law_turn", 4)]) rfl sc_law_looked_right.nd rfl rfl (sw_true rfl rfl rfl (by decide +kernel)) (pi_range1 (by rfl) g.b_range (pa_cons pe_int pa_nil)) (blkOk_by (own := [("_law_turn", 4)]) (N := nm_law_looked_right) (sc := defScope st_law_looked_right) (by decide +kernel)) (fun _ _ _ _ _ => (pg_name (i := 4) sc_law_looked_right.nd rfl (Or.inl rfl))) (fun _ _ _ _ _ => pts_nil) (fun _ _ _ _ _ => (pe_callB (k_repr (K := K) hr.units ng) (by rfl) g.b_repr bt_repr (pa_cons (pe_lamN (q := (("_law_looked_right" : Str) ++ ".<locals>." ++ "<lambda>")) (k := 5) D_law_told (hr.mono (by decide)) (by decide) ng (by rfl) TB rfl rfl (LamX.lamS_by (sc := relS _ (defScope st_law_looked_right)) (by decide +kernel)) rfl (fun _ _ _ _ _ => rfl) (fun A outer s H E f c hr ng => (pe_f D_read_code (hr.mono (by decide)) ng (by rfl) (tkW (takes_ rfl rfl rfl rfl)) (pa_cons (pv 0) pa_nil)))) pa_nil))))
      (pss_one (ps_ret (pe_and (pe_cmpR (k_eq (K := K) hr.units) (pv 3) (pe_lst (pa_cons (pv 1) (pa_cons (pv 1) pa_nil))) (nomark _)) (pe_one (pe_cmpR (k_eq (K := K) hr.units) (pe_callB (k_repr (K := K) hr.units ng) (by rfl) g.b_repr bt_repr (pa_cons (pv 0) pa_nil)) (pv 2) (nomark _)))))))), ?_⟩
  obtain ⟨v0, d0⟩ := w
  obtain ⟨hd, hr, th⟩ := s.th .head hw
  have rp0 : Rp d0 1000000 40 := hr.more (by decide) (by decide)
  have kd : ∀ {L' : List Asn} {H' : Hp}, S (AThs 20000 ws :: L') H' → ∀ K, Dp K H' v0 d0 := fun s' => (s'.th .head hw).1
  rcases th with ⟨x, ew, hxl, hxs⟩ | ho
  · cases ew
    have hx6 : x.length ≤ 600 := hsh x rfl
    rcases code_either x with ok | ⟨q, eq⟩
    · obtain ⟨bb, bl⟩ := ok.blk
      have sb : Sm (blkOf x) := fun c hc => by rcases bb c hc with z | z <;> rw [z] <;> decide
      have rp1 : Rp (.tuple [Dt [116, 111, 108, 100], Dt (blkOf x)]) 500000 40 := rp_pair (n := 200002) (Sm.rp (Sm.of rfl) (by decide)) (Sm.rp sb (by omega)) (by decide) (by decide)
      (walk_at "a91c550d3"; walk_at "ae1f83bb8"; walk_at "a33f2f4b5"; walk_at "ae1f83bb8"; walk_at "acdbb3963"; walk_at "ae1f83bb8"; walk_at "ad25b13d2"; walk_at "afef05d44")
      refine cx_law_code_due s (by omega) (fun q eq => (eq.not ok).elim) (fun _ p1 G1 g1 => ?_)
      (walk_at "afef05d44")
      refine repr_ (d := .tuple [Dt [116, 111, 108, 100], Dt (blkOf x)]) (by walk_at "dp") rp1 (by decide) ?_
      (walk_at "ae1f83bb8"; walk_at "a33f2f4b5"; walk_at "ae1f83bb8"; walk_at "ad25b13d2"; walk_at "afef05d44")
      refine repr_ (d := Dt x) (Dp.str _) rp0 (by decide) ?_
      (walk_at "afef05d44"; walk_at "a843fc401"; walk_at "a3d76496c"; walk_at "a85c4f338"; walk_at "a2eb9ad30"; walk_at "a667a4238"; walk_at "ae1f83bb8"; walk_at "ad15d6c32"; walk_at "afef05d44"; walk_at "a02753dc7")
      refine lcRi g1 (fun D i H' => S (pts D (.lst (List.replicate i (T (shownL (.tuple [Dt [116, 111, 108, 100], Dt (blkOf x)]))))) :: AThs 20000 ws :: AT K "_law_looked_right" :: L) H') (fun D G2 g2 => g2.to (.cons .head (.drop .refl))) (fun x => rfl) (fun D i G2 hi2 g2 => ?_) (fun D G2 g2 => ?_)
      · (walk_at "a35c9178e"; walk_at "a97db19fa"; walk_at "a33f2f4b5"; walk_at "ae1f83bb8"; walk_at "ab9db1f49"; walk_at "acdbb3963"; walk_at "ae1f83bb8"; walk_at "ad25b13d2"; walk_at "afef05d44")
        refine cx_read_code (by assumption) (by omega) (fun _ H9 g9 => ?_) (fun q eq => (eq.not ok).elim)
        (walk_at "aa83ca865"; walk_at "afef05d44")
        refine repr_ (d := (.tuple [Dt [116, 111, 108, 100], Dt (blkOf x)])) (by walk_at "dp") rp1 (by decide) ?_
        exact put1_S (by assumption) (by walk_at "rp") List.replicate_succ'.symm (by rw [List.length_replicate]; have : (2 : Int).toNat = 2 := rfl; omega) fun H5 s5 => by walk_at "sub"
      · have g3 : S (pts D (.lst [T (shownL (.tuple [Dt [116, 111, 108, 100], Dt (blkOf x)])), T (shownL (.tuple [Dt [116, 111, 108, 100], Dt (blkOf x)]))]) :: AThs 20000 ws :: AT K "_law_looked_right" :: L) G2 := g2
        clear g2
        (walk_at "a3d76496c"; walk_at "ac39ddb8c"; walk_at "a4c4c815b"; walk_at "a2c441c41"; walk_at "ad25b13d2"; walk_at "afaa010ed"; walk_at "ae1f83bb8"; walk_at "ad25b13d2"; walk_at "ae1f83bb8"; walk_at "ad25b13d2"; walk_at "afef05d44"; walk_at "a5a35570c")
        refine eqTs_ (t := shownL (.tuple [Dt [116, 111, 108, 100], Dt (blkOf x)])) (shownL_small rp1) (S.at_ (by assumption) (by walk_at "pk")) (S.at_ (by assumption) (by walk_at "pk")) ?_
        (walk_at "a5012d8eb"; walk_at "a2c441c41"; walk_at "a33f2f4b5"; walk_at "ae1f83bb8"; walk_at "ad25b13d2"; walk_at "afef05d44")
        refine repr_ (d := Dt x) (Dp.str _) rp0 (by decide) ?_
        (walk_at "ad25b13d2"; walk_at "a603f4d20"; walk_at "a8f7cfc14")
        exact k _ (by walk_at "sub")
    · have hq : q ≤ 600 := Nat.le_trans eq.1 hx6
      have rp1 : Rp (.tuple [Dt [78, 111, 67, 111, 100, 101], .int (q : Nat)]) 500 40 := rp_pair (n := 70) (Sm.rp (Sm.of rfl) (by decide)) (.more (.int (by omega) (by omega)) (by decide) (by decide)) (by decide) (by decide)
      (walk_at "a91c550d3"; walk_at "ae1f83bb8"; walk_at "a33f2f4b5"; walk_at "ae1f83bb8"; walk_at "acdbb3963"; walk_at "ae1f83bb8"; walk_at "ad25b13d2"; walk_at "afef05d44")
      refine cx_law_code_due s (by omega) (fun q2 eq2 p1 G1 g1 => ?_) (fun ok => (eq.not ok).elim)
      obtain rfl := eq.uniq eq2
      (walk_at "afef05d44")
      refine repr_ (d := .tuple [Dt [78, 111, 67, 111, 100, 101], .int (q : Nat)]) (by walk_at "dp") rp1 (by decide) ?_
      (walk_at "ae1f83bb8"; walk_at "a33f2f4b5"; walk_at "ae1f83bb8"; walk_at "ad25b13d2"; walk_at "afef05d44")
      refine repr_ (d := Dt x) (Dp.str _) rp0 (by decide) ?_
      (walk_at "afef05d44"; walk_at "a843fc401"; walk_at "a3d76496c"; walk_at "a85c4f338"; walk_at "a2eb9ad30"; walk_at "a667a4238"; walk_at "ae1f83bb8"; walk_at "ad15d6c32"; walk_at "afef05d44"; walk_at "a02753dc7")
      refine lcRi g1 (fun D i H' => S (pts D (.lst (List.replicate i (T (shownL (.tuple [Dt [78, 111, 67, 111, 100, 101], .int (q : Nat)]))))) :: AThs 20000 ws :: AT K "_law_looked_right" :: L) H') (fun D G2 g2 => g2.to (.cons .head (.drop .refl))) (fun x => rfl) (fun D i G2 hi2 g2 => ?_) (fun D G2 g2 => ?_)
      · (walk_at "a35c9178e"; walk_at "a97db19fa"; walk_at "a33f2f4b5"; walk_at "ae1f83bb8"; walk_at "ab9db1f49"; walk_at "acdbb3963"; walk_at "ae1f83bb8"; walk_at "ad25b13d2"; walk_at "afef05d44")
        refine cx_read_code (by assumption) (by omega) (fun ok => (eq.not ok).elim) (fun q3 eq3 d9 H9 g9 => refused_ 0 rfl rfl ⟨_, rfl, g9.at_ .head⟩ ?_)
        obtain rfl := eq.uniq eq3
        (walk_at "aa83ca865"; walk_at "afef05d44")
        refine repr_ (d := (.tuple [Dt [78, 111, 67, 111, 100, 101], .int (q : Nat)])) (by walk_at "dp") rp1 (by decide) ?_
        exact put1_S (by assumption) (by walk_at "rp") List.replicate_succ'.symm (by rw [List.length_replicate]; have : (2 : Int).toNat = 2 := rfl; omega) fun H5 s5 => by walk_at "sub"
      · have g3 : S (pts D (.lst [T (shownL (.tuple [Dt [78, 111, 67, 111, 100, 101], .int (q : Nat)])), T (shownL (.tuple [Dt [78, 111, 67, 111, 100, 101], .int (q : Nat)]))]) :: AThs 20000 ws :: AT K "_law_looked_right" :: L) G2 := g2
        clear g2
        (walk_at "a3d76496c"; walk_at "ac39ddb8c"; walk_at "a4c4c815b"; walk_at "a2c441c41"; walk_at "ad25b13d2"; walk_at "afaa010ed"; walk_at "ae1f83bb8"; walk_at "ad25b13d2"; walk_at "ae1f83bb8"; walk_at "ad25b13d2"; walk_at "afef05d44"; walk_at "a5a35570c")
        refine eqTs_ (t := shownL (.tuple [Dt [78, 111, 67, 111, 100, 101], .int (q : Nat)])) (shownL_small rp1) (S.at_ (by assumption) (by walk_at "pk")) (S.at_ (by assumption) (by walk_at "pk")) ?_
        (walk_at "a5012d8eb"; walk_at "a2c441c41"; walk_at "a33f2f4b5"; walk_at "ae1f83bb8"; walk_at "ad25b13d2"; walk_at "afef05d44")
        refine repr_ (d := Dt x) (Dp.str _) rp0 (by decide) ?_
        (walk_at "ad25b13d2"; walk_at "a603f4d20"; walk_at "a8f7cfc14")
        exact k _ (by walk_at "sub")
  · have rp1 : Rp (.tuple [Dt [78, 111, 67, 111, 100, 101], .none]) 500 40 := rp_pair (n := 70) (Sm.rp (Sm.of rfl) (by decide)) (.more .non (by decide) (by decide)) (by decide) (by decide)
    (walk_at "a91c550d3"; walk_at "ae1f83bb8"; walk_at "a33f2f4b5"; walk_at "ae1f83bb8"; walk_at "acdbb3963"; walk_at "ae1f83bb8"; walk_at "ad25b13d2"; walk_at "afef05d44")
    refine cx_law_code_dueO s ho (fun p1 G1 g1 => ?_)
    (walk_at "afef05d44")
    refine repr_ (d := .tuple [Dt [78, 111, 67, 111, 100, 101], .none]) (by walk_at "dp") rp1 (by decide) ?_
    (walk_at "ae1f83bb8"; walk_at "a33f2f4b5"; walk_at "ae1f83bb8"; walk_at "ad25b13d2"; walk_at "afef05d44")
    refine repr_ (d := d0) ((g1.th (by walk_at "pk") hw).1 _) rp0 (by decide) ?_
    (walk_at "afef05d44"; walk_at "a843fc401"; walk_at "a3d76496c"; walk_at "a85c4f338"; walk_at "a2eb9ad30"; walk_at "a667a4238"; walk_at "ae1f83bb8"; walk_at "ad15d6c32"; walk_at "afef05d44"; walk_at "a02753dc7")
    refine lcRi g1 (fun D i H' => S (pts D (.lst (List.replicate i (T (shownL (.tuple [Dt [78, 111, 67, 111, 100, 101], .none]))))) :: AThs 20000 ws :: AT K "_law_looked_right" :: L) H') (fun D G2 g2 => g2.to (.cons .head (.drop .refl))) (fun x => rfl) (fun D i G2 hi2 g2 => ?_) (fun D G2 g2 => ?_)
    · (walk_at "a35c9178e"; walk_at "a97db19fa"; walk_at "a33f2f4b5"; walk_at "ae1f83bb8"; walk_at "ab9db1f49"; walk_at "acdbb3963"; walk_at "ae1f83bb8"; walk_at "ad25b13d2"; walk_at "afef05d44")
      refine cx_read_codeO (by assumption) ((S.th (by assumption) (by walk_at "pk") hw).odd ho) (fun d9 H9 g9 => refused_ 0 rfl rfl ⟨_, rfl, g9.at_ .head⟩ ?_)
      (walk_at "aa83ca865"; walk_at "afef05d44")
      refine repr_ (d := (.tuple [Dt [78, 111, 67, 111, 100, 101], .none])) (by walk_at "dp") rp1 (by decide) ?_
      exact put1_S (by assumption) (by walk_at "rp") List.replicate_succ'.symm (by rw [List.length_replicate]; have : (2 : Int).toNat = 2 := rfl; omega) fun H5 s5 => by walk_at "sub"
    · have g3 : S (pts D (.lst [T (shownL (.tuple [Dt [78, 111, 67, 111, 100, 101], .none])), T (shownL (.tuple [Dt [78, 111, 67, 111, 100, 101], .none]))]) :: AThs 20000 ws :: AT K "_law_looked_right" :: L) G2 := g2
      clear g2
      (walk_at "a3d76496c"; walk_at "ac39ddb8c"; walk_at "a4c4c815b"; walk_at "a2c441c41"; walk_at "ad25b13d2"; walk_at "afaa010ed"; walk_at "ae1f83bb8"; walk_at "ad25b13d2"; walk_at "ae1f83bb8"; walk_at "ad25b13d2"; walk_at "afef05d44"; walk_at "a5a35570c")
      refine eqTs_ (t := shownL (.tuple [Dt [78, 111, 67, 111, 100, 101], .none])) (shownL_small rp1) (S.at_ (by assumption) (by walk_at "pk")) (S.at_ (by assumption) (by walk_at "pk")) ?_
      (walk_at "a5012d8eb"; walk_at "a2c441c41"; walk_at "a33f2f4b5"; walk_at "ae1f83bb8"; walk_at "ad25b13d2"; walk_at "afef05d44")
      refine repr_ (d := d0) ((S.th (by assumption) (by walk_at "pk") hw).1 _) rp0 (by decide) ?_
      (walk_at "ad25b13d2"; walk_at "a603f4d20"; walk_at "a8f7cfc14")
      exact k _ (by walk_at "sub")
end
section
variable {P : Program} {w : World} {K : PySem.W.Frag} {mg : Str → Option Value} {base : Heap} {C_CountError C_NoCode C_NoBits C_NoTree C_NoPage C_NoWord C_NoTurned C_NoStretch C_NoRow C_NoPlace C_NoNode C_NoLetter C_NoDeed C_Full C_Torn C_Busy : Addr}
set_option maxHeartbeats 4000000 in
theorem ok_law {f : Addr} {fd : FuncData} {dV kV : Value} (g : G mg)
    (F : Txt K "law" "law" (defArgs st_law) (defBody st_law) (defScope st_law) dV kV f fd)
    (D_law_urn : Def P w K mg base 1 "_law_urn" [] (sp_law_urn K))
    (D_law_codes : Def P w K mg base 2 "_law_codes" [] (sp_law_codes))
    (D_law_bits : Def P w K mg base 2 "_law_bits" [] (sp_law_bits))
    (D_law_odd : Def P w K mg base 2 "_law_odd" [] (sp_law_odd))
    (D_law_block : Def P w K mg base 3 "_law_block" [] (sp_law_block))
    (D_law_draw : Def P w K mg base 1 "_law_draw" [] (sp_law_draw))
    (D_law_spoilt_code : Def P w K mg base 2 "_law_spoilt_code" [] (sp_law_spoilt_code))
    (D_law_number_code : Def P w K mg base 1 "_law_number_code" [] (sp_law_number_code))
    (D_law_looked_right : Def P w K mg base 8 "_law_looked_right" [] (sp_law_looked_right K)) :
    FnG P w K mg base 9 f fd ["_law_script"] (sp_law K) := by
  refine z_fn F sc_law (fun vs H Q E h => by
    obtain ⟨a, ns, rfl, s, hl, k⟩ := h
    rfl) (fun cd A outer s H vs Q E hr ng h => ?_)
  obtain ⟨a, ns, rfl, s, hl, k⟩ := h
  refine ⟨_, [_, none, none, none, none, none, none, none, none, none, none, none], rfl, (pss_cons (ps_for (passes_of rfl) rfl (pi_range1 (by rfl) g.b_range (pa_cons (pe_callB (z_max2 rfl) (by rfl) g.b_max bt_max (pa_cons pe_int (pa_cons (pe_callB (z_min2 rfl) (by rfl) g.b_min bt_min (pa_cons pe_int (pa_cons (pe_callB (k_len (K := K)) (by rfl) g.b_len bt_len (pa_cons (pv 0) pa_nil)) pa_nil))) pa_nil))) pa_nil)) (pg_name (i := 1) sc_law.nd rfl (Or.inl rfl)) (pss_cons (ps_set (i := 2) sc_law.nd rfl (Or.inl rfl) (pe_f D_law_urn (hr.mono (by decide)) ng (by rfl) (tkW (takes_ rfl rfl rfl rfl)) (pa_cons (pv 0) (pa_cons (pv 1) pa_nil))))
      (pss_cons (ps_set (i := 3) sc_law.nd rfl (Or.inl rfl) (pe_lst (pa_cons (pe_f D_law_odd (hr.mono (by decide)) ng (by rfl) (tkW (takes_ rfl rfl rfl rfl)) (pa_cons (pv 2) pa_nil)) (pa_cons (z_str lit_10) (pa_cons (z_str lit_32) (pa_cons (z_str lit_31) (pa_cons (z_str lit_44) (pa_cons (pe_op (k_add (K := K)) (z_str lit_31) (pe_op z_mul (z_str lit_12) (pe_op (k_add (K := K)) pe_int (pe_f D_law_draw (hr.mono (by decide)) ng (by rfl) (tkW (takes_ rfl rfl rfl rfl)) (pa_cons (pv 2) (pa_cons pe_int pa_nil)))))) pa_nil))))))))
      (pss_cons (ps_for (passes_of rfl) rfl (k_tupI (K := K) (pe_f D_law_codes (hr.mono (by decide)) ng (by rfl) (tkW (takes_ rfl rfl rfl rfl)) (pa_cons (pe_f D_law_block (hr.mono (by decide)) ng (by rfl) (tkW (takes_ rfl rfl rfl rfl)) (pa_cons (pv 2) pa_nil)) pa_nil))) (pg_name (i := 4) sc_law.nd rfl (Or.inl rfl)) (pss_cons (ps_for (passes_of rfl) rfl (pi_range1 (by rfl) g.b_range (pa_cons pe_int pa_nil)) (pg_name (i := 5) sc_law.nd rfl (Or.inl rfl)) (pss_one (ps_expr (pe_bm PySem.F.plainAttrs_list PySem.F.slot_list_append PySem.F.type_list_append mt_append (pv 3) (pa_cons (pe_f D_law_spoilt_code (hr.mono (by decide)) ng (by rfl) (tkW (takes_ rfl rfl rfl rfl)) (pa_cons (pv 2) (pa_cons (pv 4) pa_nil))) pa_nil)))))
      (pss_one (ps_expr (pe_bm PySem.F.plainAttrs_list PySem.F.slot_list_append PySem.F.type_list_append mt_append (pv 3) (pa_cons (pe_f D_law_spoilt_code (hr.mono (by decide)) ng (by rfl) (tkW (takes_ rfl rfl rfl rfl)) (pa_cons (pv 2) (pa_cons (k_orT (K := K) (pe_ix (k_ix (K := K)) (pv 3) (pe_un un_neg pe_int) (fun _ _ => rfl)) (pe_one (z_str lit_32))) pa_nil))) pa_nil))))))
      (pss_cons (ps_set (i := 6) sc_law.nd rfl (Or.inl rfl) (pe_f D_law_bits (hr.mono (by decide)) ng (by rfl) (tkW (takes_ rfl rfl rfl rfl)) (pa_cons (pv 2) (pa_cons pe_int pa_nil))))
      (pss_cons (ps_set (i := 3) sc_law.nd rfl (Or.inl rfl) (pe_op (k_add (K := K)) (pv 3) (pe_lst (pa_cons (pe_op (k_add (K := K)) (z_str lit_32) (pv 6)) (pa_cons (pe_op (k_add (K := K)) (z_str lit_31) (pv 6)) (pa_cons (pe_op (k_add (K := K)) (z_str lit_44) (pv 6)) (pa_cons (pe_op (k_add (K := K)) (z_str lit_32) (pe_op z_mul (z_str lit_41) pe_int)) pa_nil)))))))
      (pss_cons (ps_set (i := 7) sc_law.nd rfl (Or.inl rfl) (pe_op (k_add (K := K)) pe_int (pe_f D_law_draw (hr.mono (by decide)) ng (by rfl) (tkW (takes_ rfl rfl rfl rfl)) (pa_cons (pv 2) (pa_cons pe_int pa_nil)))))
      (pss_cons (ps_for (passes_of rfl) rfl (k_list (K := K) (pe_lst (pa_cons (pe_op z_sub pe_int (pv 7)) (pa_cons (pe_op z_sub pe_int (pv 7)) (pa_cons (pe_op z_sub pe_int (pv 7)) pa_nil))))) (pg_name (i := 8) sc_law.nd rfl (Or.inl rfl)) (pss_cons (ps_setLc (i := 9) (own := [("_law_one", 11)]) rfl sc_law.nd rfl rfl (sw_true rfl rfl rfl (by decide +kernel)) (k_list (K := K) (pe_lst (pa_cons (pv 7) (pa_cons (pv 8) pa_nil)))) (blkOk_by (own := [("_law_one", 11)]) (N := nm_law) (sc := defScope st_law) (by decide +kernel)) (fun _ _ _ _ _ => (pg_name (i := 11) sc_law.nd rfl (Or.inl rfl))) (fun _ _ _ _ _ => (pts_one (pt_cmpR z_gt (pv 11) pe_int (nomark _)))) (fun _ _ _ _ _ => (pe_f D_law_number_code (hr.mono (by decide)) ng (by rfl) tk0 (pa_cons (pv 11) pa_nil))))
      (pss_one (ps_expr (pe_bm PySem.F.plainAttrs_list PySem.F.slot_list_append PySem.F.type_list_append mt_append (pv 3) (pa_cons (pe_op (k_add (K := K)) (z_str lit_43) (k_join (K := K) (z_str lit_10) (pv 9))) pa_nil))))))
      (pss_one (ps_for (passes_of rfl) rfl (k_list (K := K) (pe_op (k_add (K := K)) (pv 3) (pe_slice (k_sl (K := K)) (pv 3) po_none (po_some pe_int)))) (pg_name (i := 10) sc_law.nd rfl (Or.inl rfl)) (pss_one (ps_if (pt_not (k_truth (K := K) (pe_f D_law_looked_right (hr.mono (by decide)) ng (by rfl) (tkW (takes_ rfl rfl rfl rfl)) (pa_cons (pv 10) pa_nil)) (by intro _; rfl))) (pss_one (ps_ret pe_bl)) pss_nil))))))))))))
      (pss_one (ps_ret pe_bl))), ?_⟩
  (walk_at "a1fccfa88"; walk_at "a667a4238"; walk_at "ae1f83bb8"; walk_at "a33f2f4b5"; walk_at "ae1f83bb8"; walk_at "ad15d6c32"; walk_at "ae1f83bb8"; walk_at "a33f2f4b5"; walk_at "ae1f83bb8"; walk_at "ad15d6c32"; walk_at "ae1f83bb8"; walk_at "a33f2f4b5"; walk_at "ae1f83bb8"; walk_at "ad25b13d2"; walk_at "afef05d44"; walk_at "a1547b0ad"; walk_at "afef05d44"; walk_at "af540029c"; walk_at "afef05d44"; walk_at "a85357d03"; walk_at "afef05d44"; walk_at "a02753dc7")
  rw [List.length_map]
  skip
  have hn : ∃ m : Nat, (if (if (ns.length : Int) < 4 then (ns.length : Int) else 4) > 2 then (if (ns.length : Int) < 4 then (ns.length : Int) else 4) else 2) = (m : Int) ∧ m ≤ 4 := by
    by_cases h4 : (ns.length : Int) < 4
    · rw [if_pos h4]
      by_cases h2 : (ns.length : Int) > 2
      · rw [if_pos h2]; exact ⟨_, rfl, by omega⟩
      · rw [if_neg h2]; exact ⟨2, rfl, by omega⟩
    · rw [if_neg h4]; exact ⟨4, by simp, by omega⟩
  obtain ⟨m, hm, hm4⟩ := hn
  rw [hm]
  skip
  rw [Int.toNat_natCast]
  refine forR (fun i σ H' => ∃ v2 v3 v4 v5 v6 v7 v8 v9 v10 v11 v12 : Option V, σ = [some (.ref a), v2, v3, v4, v5, v6, v7, v8, v9, v10, v11, v12] ∧ S [AT K "_law_looked_right", ASq K a (ns.map V.int)] H') ⟨none, none, none, none, none, none, none, none, none, none, none, rfl, s⟩ ?_ ?_
  · rintro i σ H1 hi ⟨v2, v3, v4, v5, v6, v7, v8, v9, v10, v11, v12, rfl, s1⟩
    (walk_at "a3d76496c"; walk_at "a85c4f338"; walk_at "acdbb3963"; walk_at "ae1f83bb8"; walk_at "ad25b13d2"; walk_at "ae1f83bb8"; walk_at "ad25b13d2"; walk_at "afef05d44"; walk_at "a174a02dd"; walk_at "a3d76496c"; walk_at "a85c4f338"; walk_at "afaa010ed"; walk_at "ae1f83bb8"; walk_at "acdbb3963"; walk_at "ae1f83bb8"; walk_at "ad25b13d2"; walk_at "afef05d44"; walk_at "a6982c084"; walk_at "ae1f83bb8"; walk_at "ad15d6c32"; walk_at "ae1f83bb8"; walk_at "ad15d6c32"; walk_at "ae1f83bb8"; walk_at "ad15d6c32"; walk_at "ae1f83bb8"; walk_at "ad15d6c32"; walk_at "ae1f83bb8"; walk_at "a2c441c41"; walk_at "ad15d6c32"; walk_at "a2c441c41"; walk_at "ad15d6c32"; walk_at "a2c441c41"; walk_at "ad15d6c32"; walk_at "acdbb3963"; walk_at "ae1f83bb8"; walk_at "ad25b13d2"; walk_at "ae1f83bb8"; walk_at "ad15d6c32"; walk_at "afef05d44"; walk_at "abca2a96c"; walk_at "a470d4ce9"; walk_at "a1d30e24a"; walk_at "a4e0c8928"; walk_at "afef05d44"; walk_at "a5a35570c"; walk_at "a3d76496c"; walk_at "a1fccfa88"; walk_at "ae0ce04ac"; walk_at "acdbb3963"; walk_at "ae1f83bb8"; walk_at "acdbb3963"; walk_at "ae1f83bb8"; walk_at "ad25b13d2"; walk_at "afef05d44"; walk_at "a984ef5dd"; walk_at "afef05d44"; walk_at "a5e83b759"; walk_at "a6d3a6bc4")
    rename_i u G1 g1 v dv G2 g2 d G3 d0 d1 g3 pL G4 g4 l G5 lb l0 l1 g5 pT G6 g6
    have sho : Short [(v, dv)] := Short.odd g2 .head
    obtain ⟨e, he, he1⟩ : ∃ e : Nat, (1 + d : Int) = (e : Nat) ∧ e ≤ 12 := ⟨(1 + d).toNat, by omega, by omega⟩
    rw [he, Int.toNat_natCast] at g6
    have srep : Sm ([114] ++ rep [48] e) := (Sm.one (by decide)).app (Sm.rep (Sm.one (by decide)) _)
    have lrep : ([114] ++ rep [48] e).length ≤ 13 := by rw [List.length_append, rep_len]; simp only [List.length_singleton]; omega
    generalize [114] ++ rep [48] e = y6 at g6 srep lrep
    have h7 := ((((((g6.noThs (n := 20000)).thsO (v := v) (d := dv) (by walk_at "pk") (by decide)).thsT (x := []) (by decide) (fun c hc => nomatch hc)).thsT (x := [112]) (by decide) (Sm.of rfl)).thsT (x := [114]) (by decide) (Sm.of rfl)).thsT (x := [114, 49]) (by decide) (Sm.of rfl)).thsT (x := y6) (by omega) srep
    have sh6 := (((((sho.snoc (y := []) (by decide)).snoc (y := [112]) (by decide)).snoc (y := [114]) (by decide)).snoc (y := [114, 49]) (by decide)).snoc (y := y6) (by omega))
    clear g1 g2 g3 g4 g5 g6 s1
    generalize hW : (([] ++ [(v, dv)] ++ [(T [], Dt [])] ++ [(T [112], Dt [112])] ++ [(T [114], Dt [114])] ++ [(T [114, 49], Dt [114, 49])] ++ [(T y6, Dt y6)]) : List (V × PyData)) = W0 at h7
    have sh0 : Short W0 := by rw [← hW]; exact sh6
    have eW : ([v, T [], T [112], T [114], T [114, 49], T y6] : List V) = W0.map Prod.fst := by rw [← hW]; rfl
    have lW : W0.length = 6 := by rw [← hW]; rfl
    rw [eW] at h7
    clear eW hW sh6
    have sl : Sm (112 :: l) := fun c hc => by
      rcases List.mem_cons.mp hc with z | z
      · rw [z]; decide
      · rcases lb c z with w | w <;> rw [w] <;> decide
    have sr : Sm (rcode l) := sm_rcode lb l0
    have lr := rcode_len3 l
    have lr0 : 0 < (rcode l).length := Nat.succ_pos _
    refine forU (xs := [T (112 :: l), T (rcode l)]) (fun b σ H' => ∃ (W : List (V × PyData)) (n : Nat) (v5 v6 : Option V), σ = [some (.ref a), some (.int (0 + (i : Nat))), some (.ref u), some (.ref pL), v5, v6, v7, v8, v9, v10, v11, v12] ∧ W.length = 6 + 5 * b ∧ n ≤ 2200 + 20 * b ∧ Short W ∧ S [pts pT (.tup [T (112 :: l), T (rcode l)]), pts pL (.lst (W.map Prod.fst)), AThs 20000 W, AUrn u n, AT K "_law_looked_right", ASq K a (ns.map V.int)] H') ⟨W0, _, _, _, rfl, lW, ?_, sh0, by walk_at "sub"⟩ (fun b σ H' _ ⟨_, _, _, _, _, _, _, _, t⟩ => t.at_ .head) ?_ ?_
    · omega
    · rintro b z σ H8 hz ⟨W, n, v5, v6, rfl, lW2, hn2, sh, g8⟩
      clear h7
      obtain ⟨y, rfl, sy, y0, y1, hb2⟩ : ∃ y : List Nat, z = T y ∧ Sm y ∧ 0 < y.length ∧ y.length ≤ 130 ∧ b < 2 := by
        have hb : b < 2 := (List.getElem?_eq_some_iff.mp hz).1
        rcases (by omega : b = 0 ∨ b = 1) with rfl | rfl
        · cases hz
          exact ⟨_, rfl, sl, by simp, by rw [List.length_cons]; omega, by decide⟩
        · cases hz
          exact ⟨_, rfl, sr, lr0, by omega, by decide⟩
      (walk_at "a3beb7cd4"; walk_at "a3d76496c"; walk_at "a1fccfa88"; walk_at "a667a4238"; walk_at "ae1f83bb8"; walk_at "ad15d6c32"; walk_at "afef05d44"; walk_at "a02753dc7")
      refine forR (fun i2 σ H' => ∃ (W : List (V × PyData)) (n : Nat) (v6 : Option V), σ = [some (.ref a), some (.int (0 + (i : Nat))), some (.ref u), some (.ref pL), some (T y), v6, v7, v8, v9, v10, v11, v12] ∧ W.length = 6 + 5 * b + i2 ∧ n ≤ 2200 + 20 * b + 3 * i2 ∧ Short W ∧ (i2 = 0 ∨ ∃ (W' : List (V × PyData)) (y' : List Nat), W = W' ++ [(T y', Dt y')] ∧ Sm y' ∧ y'.length ≤ 131) ∧ S [pts pT (.tup [T (112 :: l), T (rcode l)]), pts pL (.lst (W.map Prod.fst)), AThs 20000 W, AUrn u n, AT K "_law_looked_right", ASq K a (ns.map V.int)] H') ⟨W, n, _, rfl, lW2, by omega, sh, .inl rfl, g8⟩ ?_ ?_
      · rintro i2 σ H9 hi2 ⟨W, n, v6, rfl, lW3, hn3, sh3, _, g9⟩
        have hi4 : i2 < 4 := hi2
        clear g8
        have hwl : (W.map Prod.fst).length ≤ 40 := by rw [List.length_map]; omega
        (walk_at "a3d76496c"; walk_at "a5ba7d5f5"; walk_at "ad1b438b8"; walk_at "ad25b13d2"; walk_at "a39154dd1"; walk_at "ae1f83bb8"; walk_at "acdbb3963"; walk_at "ae1f83bb8"; walk_at "ad25b13d2"; walk_at "ae1f83bb8"; walk_at "ad25b13d2"; walk_at "afef05d44"; walk_at "a8a574edc"; walk_at "afef05d44"; walk_at "ac0de799a"; walk_at "a28557e3a")
        rename_i z H10 hz2 sz s10 H11 s11
        have s12 : S (AThs 20000 W :: [pts pL (.lst (W.map Prod.fst ++ [T z])), pts pT (.tup [T (112 :: l), T (rcode l)]), AUrn u (n + 3), AT K "_law_looked_right", ASq K a (ns.map V.int)]) H11 := by walk_at "sub"
        have s13 := ths_snoc s12 (y := z) (by omega) sz
        rw [fst_snoc] at s13
        exact ⟨W ++ [(T z, Dt z)], _, _, rfl, by rw [List.length_append, lW3]; rfl, (by omega : n + 3 ≤ 2200 + 20 * b + 3 * (i2 + 1)), sh3.snoc (by omega), .inr ⟨W, z, rfl, sz, by omega⟩, by walk_at "sub"⟩
      · rintro σ H9 ⟨W, n, v6, rfl, lW3, hn3, sh3, hor, g9⟩
        clear g8
        obtain ⟨W', y', rfl, sy', ly'⟩ : ∃ (W' : List (V × PyData)) (y' : List Nat), W = W' ++ [(T y', Dt y')] ∧ Sm y' ∧ y'.length ≤ 131 := hor.resolve_left (by decide)
        have hat : atI ((W' ++ [(T y', Dt y')]).map Prod.fst) (-1) = some (T y') := at_last2 (by rw [List.map_append]; exact List.getLast?_concat)
        have hwl : ((W' ++ [(T y', Dt y')]).map Prod.fst).length ≤ 40 := by rw [List.length_map]; omega
        have hn4 : n ≤ 2200 + 20 * b + 12 := hn3
        have lW4 : (W' ++ [(T y', Dt y')]).length = 6 + 5 * b + 4 := lW3
        (walk_at "a5ba7d5f5"; walk_at "ad1b438b8"; walk_at "ad25b13d2"; walk_at "a39154dd1"; walk_at "ae1f83bb8"; walk_at "acdbb3963"; walk_at "ae1f83bb8"; walk_at "ad25b13d2"; walk_at "ae1f83bb8"; walk_at "a7152c8b5"; walk_at "a2c441c41"; walk_at "ad25b13d2"; walk_at "af5a97b89"; walk_at "ad15d6c32"; walk_at "a250d16b4"; walk_at "a5c5685b7")
        refine zorT_S (by omega) (fun q1 => ?_) (fun q1 => ?_)
        · have yp := List.length_pos_iff.mpr q1
          (walk_at "afef05d44"; walk_at "a8a574edc"; walk_at "afef05d44"; walk_at "ac0de799a"; walk_at "a28557e3a")
          rename_i z H10 hz2 sz s10 H11 s11
          have s12 : S (AThs 20000 (W' ++ [(T y', Dt y')]) :: [pts pL (.lst ((W' ++ [(T y', Dt y')]).map Prod.fst ++ [T z])), pts pT (.tup [T (112 :: l), T (rcode l)]), AUrn u (n + 3), AT K "_law_looked_right", ASq K a (ns.map V.int)]) H11 := by walk_at "sub"
          have s13 := ths_snoc s12 (y := z) (by omega) sz
          rw [fst_snoc] at s13
          exact ⟨(W' ++ [(T y', Dt y')]) ++ [(T z, Dt z)], _, _, _, rfl, by rw [List.length_append, lW4]; simp; omega, (by omega : n + 3 ≤ 2200 + 20 * (b + 1)), sh3.snoc (by omega), by walk_at "sub"⟩
        · have s112 : Sm [112] := Sm.of rfl
          have l112 : ([112] : List Nat).length = 1 := rfl
          (walk_at "ad15d6c32"; walk_at "afef05d44"; walk_at "a8a574edc"; walk_at "afef05d44"; walk_at "ac0de799a"; walk_at "a28557e3a")
          rename_i z H10 hz2 sz s10 H11 s11
          have s12 : S (AThs 20000 (W' ++ [(T y', Dt y')]) :: [pts pL (.lst ((W' ++ [(T y', Dt y')]).map Prod.fst ++ [T z])), pts pT (.tup [T (112 :: l), T (rcode l)]), AUrn u (n + 3), AT K "_law_looked_right", ASq K a (ns.map V.int)]) H11 := by walk_at "sub"
          have s13 := ths_snoc s12 (y := z) (by omega) sz
          rw [fst_snoc] at s13
          exact ⟨(W' ++ [(T y', Dt y')]) ++ [(T z, Dt z)], _, _, _, rfl, by rw [List.length_append, lW4]; simp; omega, (by omega : n + 3 ≤ 2200 + 20 * (b + 1)), sh3.snoc (by omega), by walk_at "sub"⟩
    · rintro σ H8 ⟨W, n, v5, v6, rfl, lW2, hn2, sh, g8⟩
      have lW3 : W.length = 16 := lW2
      have hn3 : n ≤ 2240 := hn2
      have hwl : (W.map Prod.fst).length = 16 := by rw [List.length_map]; omega
      clear h7
      (walk_at "a85c4f338"; walk_at "acdbb3963"; walk_at "ae1f83bb8"; walk_at "ad25b13d2"; walk_at "ae1f83bb8"; walk_at "ad15d6c32"; walk_at "afef05d44"; walk_at "ab1715b67"; walk_at "a3d76496c"; walk_at "a85c4f338"; walk_at "a2c441c41"; walk_at "ad25b13d2"; walk_at "afaa010ed"; walk_at "ae1f83bb8"; walk_at "a2c441c41"; walk_at "ad15d6c32"; walk_at "ad25b13d2"; walk_at "a4e0c8928"; walk_at "ae1f83bb8"; walk_at "a2c441c41"; walk_at "ad15d6c32"; walk_at "ad25b13d2"; walk_at "a4e0c8928"; walk_at "ae1f83bb8"; walk_at "a2c441c41"; walk_at "ad15d6c32"; walk_at "ad25b13d2"; walk_at "a4e0c8928"; walk_at "ae1f83bb8"; walk_at "a2c441c41"; walk_at "ad15d6c32"; walk_at "a2c441c41"; walk_at "ad15d6c32"; walk_at "ad15d6c32"; walk_at "a1d30e24a"; walk_at "a4e0c8928"; walk_at "afef05d44"; walk_at "a5a35570c"; walk_at "a1cd4c4d9"; walk_at "a3d76496c"; walk_at "a85c4f338"; walk_at "a2c441c41"; walk_at "ad15d6c32"; walk_at "acdbb3963"; walk_at "ae1f83bb8"; walk_at "ad25b13d2"; walk_at "ae1f83bb8"; walk_at "ad15d6c32"; walk_at "afef05d44"; walk_at "abca2a96c"; walk_at "a470d4ce9"; walk_at "a3d76496c"; walk_at "a1fccfa88"; walk_at "a27ff4d3c"; walk_at "afaa010ed"; walk_at "ae1f83bb8"; walk_at "a2c441c41"; walk_at "ad15d6c32"; walk_at "ad25b13d2"; walk_at "a8c4e17e3"; walk_at "ae1f83bb8"; walk_at "a2c441c41"; walk_at "ad15d6c32"; walk_at "ad25b13d2"; walk_at "a8c4e17e3"; walk_at "ae1f83bb8"; walk_at "a2c441c41"; walk_at "ad15d6c32"; walk_at "ad25b13d2"; walk_at "a8c4e17e3"; walk_at "afef05d44"; walk_at "a5a35570c"; walk_at "a4e297517")
      rename_i l2 G9 l2b l2l g9 pA G10 g10 pB G11 g11 d2 G12 e0 e1 g12 pN G13 g13
      have s2 : Sm l2 := fun c hc => by rcases l2b c hc with z | z <;> rw [z] <;> decide
      have s112 : Sm ([112] ++ l2) := Sm.app (Sm.of rfl) s2
      have s114 : Sm ([114] ++ l2) := Sm.app (Sm.of rfl) s2
      have s1149 : Sm ([114, 49] ++ l2) := Sm.app (Sm.of rfl) s2
      have srp : Sm ([112] ++ rep [48, 49] (Int.toNat 33)) := Sm.app (Sm.of rfl) (Sm.rep (Sm.of rfl) _)
      have lrp : ([112] ++ rep [48, 49] (Int.toNat 33)).length ≤ 70 := by rw [List.length_append, rep_len]; decide
      have la : ([112] ++ l2).length ≤ 20 ∧ ([114] ++ l2).length ≤ 20 ∧ ([114, 49] ++ l2).length ≤ 20 := by
        rw [List.length_append, List.length_append, List.length_append]
        simp only [List.length_cons, List.length_nil]
        omega
      have g14 : S (AThs 20000 W :: [pts pN (.lst [.int (64 - (1 + d2)), .int (65 - (1 + d2)), .int (66 - (1 + d2))]), pts pB (.lst (W.map Prod.fst ++ [T ([112] ++ l2), T ([114] ++ l2), T ([114, 49] ++ l2), T ([112] ++ rep [48, 49] (Int.toNat 33))])), AT K "_law_looked_right", ASq K a (ns.map V.int)]) G13 := by walk_at "sub"
      clear g8 g9 g10 g11 g12 g13
      generalize [112] ++ rep [48, 49] (Int.toNat 33) = y4 at g14 srp lrp
      generalize [112] ++ l2 = y1 at g14 s112 la
      generalize [114] ++ l2 = y2 at g14 s114 la
      generalize [114, 49] ++ l2 = y3 at g14 s1149 la
      have g15 := ths_snoc (ths_snoc (ths_snoc (ths_snoc g14 (y := y1) (by omega) s112) (y := y2) (by omega) s114) (y := y3) (by omega) s1149) (y := y4) (by omega) srp
      have sh5 := (((sh.snoc (y := y1) (by omega)).snoc (y := y2) (by omega)).snoc (y := y3) (by omega)).snoc (y := y4) (by omega)
      have e15 : W.map Prod.fst ++ [T y1, T y2, T y3, T y4] = (W ++ [(T y1, Dt y1)] ++ [(T y2, Dt y2)] ++ [(T y3, Dt y3)] ++ [(T y4, Dt y4)]).map Prod.fst := by
        rw [← fst_snoc, ← fst_snoc, ← fst_snoc, ← fst_snoc]; simp
      have l15 : (W ++ [(T y1, Dt y1)] ++ [(T y2, Dt y2)] ++ [(T y3, Dt y3)] ++ [(T y4, Dt y4)]).length = 20 := by simp [lW3]
      rw [e15] at g15
      clear g14 e15
      generalize W ++ [(T y1, Dt y1)] ++ [(T y2, Dt y2)] ++ [(T y3, Dt y3)] ++ [(T y4, Dt y4)] = W5 at g15 l15 sh5
      refine forL (xs := [.int (64 - (1 + d2)), .int (65 - (1 + d2)), .int (66 - (1 + d2))]) (fun b σ H' => ∃ (W : List (V × PyData)) (v9 v10 : Option V), σ = [some (.ref a), some (.int (0 + (i : Nat))), some (.ref u), some (.ref pB), v5, v6, some (T l2), some (.int (1 + d2)), v9, v10, v11, v12] ∧ W.length = 20 + b ∧ Short W ∧ S [pts pN (.lst [.int (64 - (1 + d2)), .int (65 - (1 + d2)), .int (66 - (1 + d2))]), pts pB (.lst (W.map Prod.fst)), AThs 20000 W, AT K "_law_looked_right", ASq K a (ns.map V.int)] H') ⟨W5, _, _, rfl, l15, sh5, by walk_at "sub"⟩ (fun b σ H' _ ⟨_, _, _, _, _, _, t⟩ => SqL.of (t.at_ .head)) ?_ ?_
      · rintro b z σ G14 hz ⟨W, v9, v10, rfl, lW6, sh6, g16⟩
        clear g15
        have hb : b < 3 := (List.getElem?_eq_some_iff.mp hz).1
        obtain ⟨m1, rfl, m10, m11⟩ : ∃ m1 : Int, z = .int m1 ∧ 0 ≤ m1 ∧ m1 ≤ 65 := by
          rcases (by omega : b = 0 ∨ b = 1 ∨ b = 2) with rfl | rfl | rfl <;> cases hz
          · exact ⟨_, rfl, by omega, by omega⟩
          · exact ⟨_, rfl, by omega, by omega⟩
          · exact ⟨_, rfl, by omega, by omega⟩
        (walk_at "a3d76496c"; walk_at "a85c4f338"; walk_at "a2eb9ad30"; walk_at "a27ff4d3c"; walk_at "afaa010ed"; walk_at "ae1f83bb8"; walk_at "ad25b13d2"; walk_at "ae1f83bb8"; walk_at "ad25b13d2"; walk_at "afef05d44"; walk_at "a5a35570c"; walk_at "a4e297517")
        rename_i p G15 g17
        have hwl6 : (W.map Prod.fst).length ≤ 40 := by rw [List.length_map]; omega
        have na := ncode_le (n := (1 + d2).toNat) (by omega)
        by_cases q : 0 < m1
        · have nb := ncode_le (n := m1.toNat) (by omega)
          refine lcFS (xs := [.int (1 + d2), .int m1]) (fs := [some (T (ncode (1 + d2).toNat)), some (T (ncode m1.toNat))]) g17 (fun H' s => SqL.of (s.at_ .head)) rfl (by simp) (fun D i3 x fo acc H5 N hx hf s5 hl n1 n2 => ?_) (fun D H5 s5 => ?_)
          · have hi3 : i3 < 2 := (List.getElem?_eq_some_iff.mp hx).1
            rcases (by omega : i3 = 0 ∨ i3 = 1) with rfl | rfl
            · cases hx; cases hf
              refine ⟨rfl, ?_⟩
              (walk_at "a668f72f2"; walk_at "a2c441c41"; walk_at "ad25b13d2"; walk_at "ad15d6c32"; walk_at "a2251479c"; walk_at "a8a699a1b"; walk_at "a1409150d"; walk_at "acdbb3963"; walk_at "ae1f83bb8"; walk_at "ad25b13d2"; walk_at "afef05d44"; walk_at "a63a17861"; walk_at "a594ff5a4")
              exact n1 _ rfl _ (by walk_at "sub")
            · cases hx; cases hf
              refine ⟨rfl, ?_⟩
              (walk_at "a668f72f2"; walk_at "a2c441c41"; walk_at "ad25b13d2"; walk_at "ad15d6c32"; walk_at "a2251479c"; walk_at "a8a699a1b"; walk_at "a1409150d"; walk_at "acdbb3963"; walk_at "ae1f83bb8"; walk_at "ad25b13d2"; walk_at "afef05d44"; walk_at "a63a17861"; walk_at "a594ff5a4")
              exact n1 _ rfl _ (by walk_at "sub")
          · have s6 : S (pts D (.lst [T (ncode (1 + d2).toNat), T (ncode m1.toNat)]) :: _) H5 := s5
            clear s5
            clear g17
            have lfl : ([ncode (1 + d2).toNat, ncode m1.toNat].flatten).length ≤ 270 := by simp only [List.flatten_cons, List.flatten_nil, List.length_append, List.length_nil]; omega
            have sfl : Sm ([114, 48] ++ [ncode (1 + d2).toNat, ncode m1.toNat].flatten) := Sm.app (Sm.of rfl) fun c hc => by
              obtain ⟨y, hy, hcy⟩ := List.mem_flatten.mp hc
              have : Bits y := by
                rcases List.mem_cons.mp hy with w | w
                · rw [w]; exact bits_ncode
                · rw [List.mem_singleton.mp w]; exact bits_ncode
              rcases this c hcy with z | z <;> rw [z] <;> decide
            (walk_at "a3d76496c"; walk_at "a5ba7d5f5"; walk_at "ad1b438b8"; walk_at "ad25b13d2"; walk_at "a39154dd1"; walk_at "ae1f83bb8"; walk_at "a2c441c41"; walk_at "ad15d6c32"; walk_at "af6af6ffb"; walk_at "ad15d6c32"; walk_at "a90efc992"; walk_at "ad25b13d2")
            refine join_ (ys := [ncode (1 + d2).toNat, ncode m1.toNat]) (s6.at_ .head) (by simp only [List.map_cons, List.map_nil, List.sum_cons, List.sum_nil, List.length_nil, Nat.mul_zero]; omega) ?_
            rw [joinT_nil]
            have lfl2 : ([114, 48] ++ [ncode (1 + d2).toNat, ncode m1.toNat].flatten).length ≤ 272 := by rw [List.length_append]; simp only [List.length_cons, List.length_nil]; omega
            generalize [ncode (1 + d2).toNat, ncode m1.toNat].flatten = yf at lfl sfl lfl2 ⊢
            (walk_at "a4e0c8928"; walk_at "afef05d44"; walk_at "ac0de799a"; walk_at "a28557e3a")
            rename_i H11 s11
            have s12 : S (AThs 20000 W :: [pts pB (.lst (W.map Prod.fst ++ [T ([114, 48] ++ yf)])), pts pN (.lst [.int (64 - (1 + d2)), .int (65 - (1 + d2)), .int (66 - (1 + d2))]), AT K "_law_looked_right", ASq K a (ns.map V.int)]) H11 := by walk_at "sub"
            have s13 := ths_snoc s12 (y := [114, 48] ++ yf) (by omega) sfl
            rw [fst_snoc] at s13
            exact ⟨W ++ [(T ([114, 48] ++ yf), Dt ([114, 48] ++ yf))], _, _, rfl, by rw [List.length_append, lW6]; simp; omega, sh6.snoc (by omega), by walk_at "sub"⟩
        · refine lcFS (xs := [.int (1 + d2), .int m1]) (fs := [some (T (ncode (1 + d2).toNat)), none]) g17 (fun H' s => SqL.of (s.at_ .head)) rfl (by simp) (fun D i3 x fo acc H5 N hx hf s5 hl n1 n2 => ?_) (fun D H5 s5 => ?_)
          · have hi3 : i3 < 2 := (List.getElem?_eq_some_iff.mp hx).1
            rcases (by omega : i3 = 0 ∨ i3 = 1) with rfl | rfl
            · cases hx; cases hf
              refine ⟨rfl, ?_⟩
              (walk_at "a668f72f2"; walk_at "a2c441c41"; walk_at "ad25b13d2"; walk_at "ad15d6c32"; walk_at "a2251479c"; walk_at "a8a699a1b"; walk_at "a1409150d"; walk_at "acdbb3963"; walk_at "ae1f83bb8"; walk_at "ad25b13d2"; walk_at "afef05d44"; walk_at "a63a17861"; walk_at "a594ff5a4")
              exact n1 _ rfl _ (by walk_at "sub")
            · cases hx; cases hf
              refine ⟨rfl, ?_⟩
              (walk_at "a668f72f2"; walk_at "a2c441c41"; walk_at "ad25b13d2"; walk_at "ad15d6c32"; walk_at "a2251479c"; walk_at "a8a699a1b"; walk_at "ab10f9a01")
              exact n2 rfl _ (by walk_at "sub")
          · have s6 : S (pts D (.lst [T (ncode (1 + d2).toNat)]) :: _) H5 := s5
            clear s5
            clear g17
            have lfl : ([ncode (1 + d2).toNat].flatten).length ≤ 270 := by simp only [List.flatten_cons, List.flatten_nil, List.length_append, List.length_nil]; omega
            have sfl : Sm ([114, 48] ++ [ncode (1 + d2).toNat].flatten) := Sm.app (Sm.of rfl) fun c hc => by
              obtain ⟨y, hy, hcy⟩ := List.mem_flatten.mp hc
              have : Bits y := by
                rw [List.mem_singleton.mp hy]; exact bits_ncode
              rcases this c hcy with z | z <;> rw [z] <;> decide
            (walk_at "a3d76496c"; walk_at "a5ba7d5f5"; walk_at "ad1b438b8"; walk_at "ad25b13d2"; walk_at "a39154dd1"; walk_at "ae1f83bb8"; walk_at "a2c441c41"; walk_at "ad15d6c32"; walk_at "af6af6ffb"; walk_at "ad15d6c32"; walk_at "a90efc992"; walk_at "ad25b13d2")
            refine join_ (ys := [ncode (1 + d2).toNat]) (s6.at_ .head) (by simp only [List.map_cons, List.map_nil, List.sum_cons, List.sum_nil, List.length_nil, Nat.mul_zero]; omega) ?_
            rw [joinT_nil]
            have lfl2 : ([114, 48] ++ [ncode (1 + d2).toNat].flatten).length ≤ 272 := by rw [List.length_append]; simp only [List.length_cons, List.length_nil]; omega
            generalize [ncode (1 + d2).toNat].flatten = yf at lfl sfl lfl2 ⊢
            (walk_at "a4e0c8928"; walk_at "afef05d44"; walk_at "ac0de799a"; walk_at "a28557e3a")
            rename_i H11 s11
            have s12 : S (AThs 20000 W :: [pts pB (.lst (W.map Prod.fst ++ [T ([114, 48] ++ yf)])), pts pN (.lst [.int (64 - (1 + d2)), .int (65 - (1 + d2)), .int (66 - (1 + d2))]), AT K "_law_looked_right", ASq K a (ns.map V.int)]) H11 := by walk_at "sub"
            have s13 := ths_snoc s12 (y := [114, 48] ++ yf) (by omega) sfl
            rw [fst_snoc] at s13
            exact ⟨W ++ [(T ([114, 48] ++ yf), Dt ([114, 48] ++ yf))], _, _, rfl, by rw [List.length_append, lW6]; simp; omega, sh6.snoc (by omega), by walk_at "sub"⟩
      · rintro σ G14 ⟨W, v9, v10, rfl, lW6, sh6, g16⟩
        clear g15
        have lW7 : W.length = 23 := lW6
        have hwl7 : (W.map Prod.fst).length = 23 := by rw [List.length_map]; omega
        (walk_at "ae4e945db"; walk_at "a27ff4d3c"; walk_at "a2c441c41"; walk_at "ad25b13d2"; walk_at "a1e0e6469"; walk_at "ad25b13d2"; walk_at "a67128e29"; walk_at "a0ebae3b6"; walk_at "ad15d6c32"; walk_at "a6a11b937"; walk_at "ac32f4927")
        rename_i p G15 g17
        obtain ⟨W3, e3, m3, l3⟩ := cutW W none (some 2)
        rw [e3] at g17
        have hlw : (W.map Prod.fst).length + (W3.map Prod.fst).length ≤ 60 := by rw [List.length_map, List.length_map]; omega
        (walk_at "a1cd4c4d9"; walk_at "a4e297517")
        rename_i pD G16 g18
        rw [← List.map_append] at g18
        have m4 : ∀ w ∈ W ++ W3, w ∈ W := fun w hw => (List.mem_append.mp hw).elim id (m3 w)
        clear g17
        generalize W ++ W3 = W4 at g18 m4
        refine forL (fun b σ H' => ∃ v11 : Option V, σ = [some (.ref a), some (.int (0 + (i : Nat))), some (.ref u), some (.ref pB), v5, v6, some (T l2), some (.int (1 + d2)), v9, v10, v11, v12] ∧ S [pts pD (.lst (W4.map Prod.fst)), AThs 20000 W, AT K "_law_looked_right", ASq K a (ns.map V.int)] H') ⟨_, rfl, by walk_at "sub"⟩ (fun b σ H' _ ⟨_, _, t⟩ => SqL.of (t.at_ .head)) ?_ ?_
        · rintro b z σ G17 hz ⟨v11, rfl, g19⟩
          rw [List.getElem?_map] at hz
          obtain ⟨w, hw, rfl⟩ := Option.map_eq_some_iff.mp hz
          have hwm := m4 _ (List.mem_of_getElem? hw)
          (walk_at "a3d76496c"; walk_at "ae44f4543"; walk_at "a35e1d11b"; walk_at "a4d105e21"; walk_at "acdbb3963"; walk_at "ae1f83bb8"; walk_at "ad25b13d2"; walk_at "afef05d44")
          refine cx_looked_right (by assumption) (by walk_at "pk") (by walk_at "pk") hwm (sh6 w hwm) fun H9 g20 => ?_
          (walk_at "aa4050c9e"; walk_at "a539a4fa3"; walk_at "a3cf0dcf0"; walk_at "a28557e3a")
          exact ⟨_, rfl, by walk_at "sub"⟩
        · rintro σ G17 ⟨v11, rfl, g19⟩
          (walk_at "a28557e3a")
          exact ⟨_, _, _, _, _, _, _, _, _, _, _, rfl, by walk_at "sub"⟩
  · rintro σ H1 ⟨v2, v3, v4, v5, v6, v7, v8, v9, v10, v11, v12, rfl, s1⟩
    (walk_at "ac39ddb8c"; walk_at "ad15d6c32"; walk_at "a8f7cfc14")
    exact k _
end
end
end My
namespace My
open PySem PySem.Spec PyProof.Rows L2 Z
theorem all_mk {w : World} {K : PySem.W.Frag} {h : Heap} {mg : Str → Option Value} {fa : Addr} (X : K.In h) (Gm : h.Ns mainGlobals mg) (hfa : mg "law" = some (.ref fa))
    {f_law_urn f_law_number_code f_law_runs f_law_codes f_law_draw f_law_bits f_law_odd f_law_block f_law_spoilt_code f_law_goes_on f_law_block_of f_law_code_due f_law_which f_law_told f_NoCode_init f_read_plain f_read_number f_other_bit f_read_runs f_read_code f_law_looked_right f_law C_NoCode C_CountError C_Busy C_Full C_NoBits C_NoDeed C_NoLetter C_NoNode C_NoPage C_NoPlace C_NoRow C_NoStretch C_NoTree C_NoTurned C_NoWord C_Torn : Addr}
    {od_law_urn an_law_urn od_law_number_code an_law_number_code od_law_runs an_law_runs od_law_codes an_law_codes od_law_draw an_law_draw od_law_bits an_law_bits od_law_odd an_law_odd od_law_block an_law_block od_law_spoilt_code an_law_spoilt_code od_law_goes_on an_law_goes_on od_law_block_of an_law_block_of od_law_code_due an_law_code_due od_law_which an_law_which od_law_told an_law_told od_NoCode_init an_NoCode_init od_read_plain an_read_plain od_read_number an_read_number od_other_bit an_other_bit od_read_runs an_read_runs od_read_code an_read_code od_law_looked_right an_law_looked_right od_law an_law : Option Addr}
    {sl_law_urn sl_law_number_code sl_law_runs sl_law_codes sl_law_draw sl_law_bits sl_law_odd sl_law_block sl_law_spoilt_code sl_law_goes_on sl_law_block_of sl_law_code_due sl_law_which sl_law_told sl_NoCode_init sl_read_plain sl_read_number sl_other_bit sl_read_runs sl_read_code sl_law_looked_right sl_law : Array (Option Value)}
    {oc_law_urn dc_law_urn pm_law_urn cd_law_urn ct_law_urn oc_law_number_code dc_law_number_code pm_law_number_code cd_law_number_code ct_law_number_code oc_law_runs dc_law_runs pm_law_runs cd_law_runs ct_law_runs oc_law_codes dc_law_codes pm_law_codes cd_law_codes ct_law_codes oc_law_draw dc_law_draw pm_law_draw cd_law_draw ct_law_draw oc_law_bits dc_law_bits pm_law_bits cd_law_bits ct_law_bits oc_law_odd dc_law_odd pm_law_odd cd_law_odd ct_law_odd oc_law_block dc_law_block pm_law_block cd_law_block ct_law_block oc_law_spoilt_code dc_law_spoilt_code pm_law_spoilt_code cd_law_spoilt_code ct_law_spoilt_code oc_law_goes_on dc_law_goes_on pm_law_goes_on cd_law_goes_on ct_law_goes_on oc_law_block_of dc_law_block_of pm_law_block_of cd_law_block_of ct_law_block_of oc_law_code_due dc_law_code_due pm_law_code_due cd_law_code_due ct_law_code_due oc_law_which dc_law_which pm_law_which cd_law_which ct_law_which oc_law_told dc_law_told pm_law_told cd_law_told ct_law_told oc_NoCode_init dc_NoCode_init pm_NoCode_init cd_NoCode_init ct_NoCode_init oc_read_plain dc_read_plain pm_read_plain cd_read_plain ct_read_plain oc_read_number dc_read_number pm_read_number cd_read_number ct_read_number oc_other_bit dc_other_bit pm_other_bit cd_other_bit ct_other_bit oc_read_runs dc_read_runs pm_read_runs cd_read_runs ct_read_runs oc_read_code dc_read_code pm_read_code cd_read_code ct_read_code oc_law_looked_right dc_law_looked_right pm_law_looked_right cd_law_looked_right ct_law_looked_right oc_law dc_law pm_law cd_law ct_law kV_law_urn kV_law_number_code kV_law_runs kV_law_codes kV_law_draw kV_law_bits kV_law_odd kV_law_block kV_law_spoilt_code kV_law_goes_on kV_law_block_of kV_law_code_due kV_law_which kV_law_told kV_NoCode_init kV_read_plain kV_read_number kV_other_bit kV_read_runs kV_read_code kV_law_looked_right kV_law : Value}
    {xn_NoCode xq_NoCode : Str} {xN_NoCode : Addr} {xb_NoCode : List Value} {xs_NoCode : List Str} {xu_NoCode : List Value} {xa_NoCode : Bool} {xc_NoCode : Option Bool} {xd_NoCode : Option Addr} {x0_NoCode x1_NoCode x2_NoCode x3_NoCode x5_NoCode : Option Value}
    {d_READERS : Addr} {es_READERS : Array DictEntry} {m_READERS : Nat}
    (n_IndexError : PySem.W.nsIn K mainGlobals "IndexError" = some none)
    (n_KeyError : PySem.W.nsIn K mainGlobals "KeyError" = some none)
    (n_LookupError : PySem.W.nsIn K mainGlobals "LookupError" = some none)
    (n_OverflowError : PySem.W.nsIn K mainGlobals "OverflowError" = some none)
    (n_RuntimeError : PySem.W.nsIn K mainGlobals "RuntimeError" = some none)
    (n_ValueError : PySem.W.nsIn K mainGlobals "ValueError" = some none)
    (n_abs : PySem.W.nsIn K mainGlobals "abs" = some none)
    (n_all : PySem.W.nsIn K mainGlobals "all" = some none)
    (n_enumerate : PySem.W.nsIn K mainGlobals "enumerate" = some none)
    (n_int : PySem.W.nsIn K mainGlobals "int" = some none)
    (n_isinstance : PySem.W.nsIn K mainGlobals "isinstance" = some none)
    (n_len : PySem.W.nsIn K mainGlobals "len" = some none)
    (n_max : PySem.W.nsIn K mainGlobals "max" = some none)
    (n_min : PySem.W.nsIn K mainGlobals "min" = some none)
    (n_range : PySem.W.nsIn K mainGlobals "range" = some none)
    (n_repr : PySem.W.nsIn K mainGlobals "repr" = some none)
    (n_str : PySem.W.nsIn K mainGlobals "str" = some none)
    (k_MOST_BITS : ∃ t, mg "MOST_BITS" = some (.int 64 t))
    (k_BITS : ∃ t, mg "BITS" = some (.str ⟨([48, 49] : List Nat).toArray⟩ t))
    (a_NoCode : PySem.W.nsIn K mainGlobals "NoCode" = some (some (.ref C_NoCode)))
    (a_CountError : PySem.W.nsIn K mainGlobals "CountError" = some (some (.ref C_CountError)))
    (a_Busy : PySem.W.nsIn K mainGlobals "Busy" = some (some (.ref C_Busy)))
    (a_Full : PySem.W.nsIn K mainGlobals "Full" = some (some (.ref C_Full)))
    (a_NoBits : PySem.W.nsIn K mainGlobals "NoBits" = some (some (.ref C_NoBits)))
    (a_NoDeed : PySem.W.nsIn K mainGlobals "NoDeed" = some (some (.ref C_NoDeed)))
    (a_NoLetter : PySem.W.nsIn K mainGlobals "NoLetter" = some (some (.ref C_NoLetter)))
    (a_NoNode : PySem.W.nsIn K mainGlobals "NoNode" = some (some (.ref C_NoNode)))
    (a_NoPage : PySem.W.nsIn K mainGlobals "NoPage" = some (some (.ref C_NoPage)))
    (a_NoPlace : PySem.W.nsIn K mainGlobals "NoPlace" = some (some (.ref C_NoPlace)))
    (a_NoRow : PySem.W.nsIn K mainGlobals "NoRow" = some (some (.ref C_NoRow)))
    (a_NoStretch : PySem.W.nsIn K mainGlobals "NoStretch" = some (some (.ref C_NoStretch)))
    (a_NoTree : PySem.W.nsIn K mainGlobals "NoTree" = some (some (.ref C_NoTree)))
    (a_NoTurned : PySem.W.nsIn K mainGlobals "NoTurned" = some (some (.ref C_NoTurned)))
    (a_NoWord : PySem.W.nsIn K mainGlobals "NoWord" = some (some (.ref C_NoWord)))
    (a_Torn : PySem.W.nsIn K mainGlobals "Torn" = some (some (.ref C_Torn)))
    (x_NoCode : K.lookup C_NoCode = some (excClassObj xn_NoCode xq_NoCode C_NoCode xN_NoCode xb_NoCode [.ref C_CountError, .type "ValueError", .type "Exception", .type "BaseException", .type "object"] true xs_NoCode xu_NoCode xa_NoCode xc_NoCode xd_NoCode x0_NoCode x1_NoCode x2_NoCode x3_NoCode x5_NoCode "ValueError.__new__"))
    (sa_NoCode : PySem.W.findIn K (.ref C_NoCode) "__setattr__" = some (some (.builtin "object.__setattr__")))
    (ex_NoCode : PySem.W.subIn K (.ref C_NoCode) (.type "BaseException") = some true)
    (ty_NoCode : PySem.W.typeIn K (.ref C_NoCode) = some (.type "type"))
    (kc_NoCode : PySem.W.keepIn K (.ref C_NoCode) = true)
    (no_NoCode : PySem.W.findIn K (.ref C_NoCode) "at" = some none)
    (rd_CountError : PySem.W.readsIn K C_CountError (.type "type") = true)
    (ga_CountError : PySem.W.specialIn K (.ref C_CountError) "__getattribute__" = some (some (.builtin "type.__getattribute__")))
    (vV_CountError : PySem.W.findCls K (.ref C_CountError) (.type "type") "__init__" = some (.val (.builtin "ValueError.__init__")))
    (a_law_urn : PySem.W.nsIn K mainGlobals "_law_urn" = some (some (.ref f_law_urn)))
    (l_law_urn : K.lookup f_law_urn = some ⟨oc_law_urn, od_law_urn, .func (PySem.W.fnOf "_law_urn" "_law_urn" (defArgs st_law_urn) (defBody st_law_urn) (defScope st_law_urn) .none kV_law_urn dc_law_urn pm_law_urn an_law_urn cd_law_urn ct_law_urn), sl_law_urn⟩)
    (c_law_urn : PySem.W.codeIn K cd_law_urn "_law_urn" = true)
    (q_law_urn : PySem.W.keepIn K (.ref f_law_urn) = true)
    (a_law_number_code : PySem.W.nsIn K mainGlobals "_law_number_code" = some (some (.ref f_law_number_code)))
    (l_law_number_code : K.lookup f_law_number_code = some ⟨oc_law_number_code, od_law_number_code, .func (PySem.W.fnOf "_law_number_code" "_law_number_code" (defArgs st_law_number_code) (defBody st_law_number_code) (defScope st_law_number_code) .none kV_law_number_code dc_law_number_code pm_law_number_code an_law_number_code cd_law_number_code ct_law_number_code), sl_law_number_code⟩)
    (c_law_number_code : PySem.W.codeIn K cd_law_number_code "_law_number_code" = true)
    (q_law_number_code : PySem.W.keepIn K (.ref f_law_number_code) = true)
    (a_law_runs : PySem.W.nsIn K mainGlobals "_law_runs" = some (some (.ref f_law_runs)))
    (l_law_runs : K.lookup f_law_runs = some ⟨oc_law_runs, od_law_runs, .func (PySem.W.fnOf "_law_runs" "_law_runs" (defArgs st_law_runs) (defBody st_law_runs) (defScope st_law_runs) .none kV_law_runs dc_law_runs pm_law_runs an_law_runs cd_law_runs ct_law_runs), sl_law_runs⟩)
    (c_law_runs : PySem.W.codeIn K cd_law_runs "_law_runs" = true)
    (q_law_runs : PySem.W.keepIn K (.ref f_law_runs) = true)
    (a_law_codes : PySem.W.nsIn K mainGlobals "_law_codes" = some (some (.ref f_law_codes)))
    (l_law_codes : K.lookup f_law_codes = some ⟨oc_law_codes, od_law_codes, .func (PySem.W.fnOf "_law_codes" "_law_codes" (defArgs st_law_codes) (defBody st_law_codes) (defScope st_law_codes) .none kV_law_codes dc_law_codes pm_law_codes an_law_codes cd_law_codes ct_law_codes), sl_law_codes⟩)
    (c_law_codes : PySem.W.codeIn K cd_law_codes "_law_codes" = true)
    (q_law_codes : PySem.W.keepIn K (.ref f_law_codes) = true)
    (a_law_draw : PySem.W.nsIn K mainGlobals "_law_draw" = some (some (.ref f_law_draw)))
    (l_law_draw : K.lookup f_law_draw = some ⟨oc_law_draw, od_law_draw, .func (PySem.W.fnOf "_law_draw" "_law_draw" (defArgs st_law_draw) (defBody st_law_draw) (defScope st_law_draw) .none kV_law_draw dc_law_draw pm_law_draw an_law_draw cd_law_draw ct_law_draw), sl_law_draw⟩)
    (c_law_draw : PySem.W.codeIn K cd_law_draw "_law_draw" = true)
    (q_law_draw : PySem.W.keepIn K (.ref f_law_draw) = true)
    (a_law_bits : PySem.W.nsIn K mainGlobals "_law_bits" = some (some (.ref f_law_bits)))
    (l_law_bits : K.lookup f_law_bits = some ⟨oc_law_bits, od_law_bits, .func (PySem.W.fnOf "_law_bits" "_law_bits" (defArgs st_law_bits) (defBody st_law_bits) (defScope st_law_bits) .none kV_law_bits dc_law_bits pm_law_bits an_law_bits cd_law_bits ct_law_bits), sl_law_bits⟩)
    (c_law_bits : PySem.W.codeIn K cd_law_bits "_law_bits" = true)
    (q_law_bits : PySem.W.keepIn K (.ref f_law_bits) = true)
    (a_law_odd : PySem.W.nsIn K mainGlobals "_law_odd" = some (some (.ref f_law_odd)))
    (l_law_odd : K.lookup f_law_odd = some ⟨oc_law_odd, od_law_odd, .func (PySem.W.fnOf "_law_odd" "_law_odd" (defArgs st_law_odd) (defBody st_law_odd) (defScope st_law_odd) .none kV_law_odd dc_law_odd pm_law_odd an_law_odd cd_law_odd ct_law_odd), sl_law_odd⟩)
    (c_law_odd : PySem.W.codeIn K cd_law_odd "_law_odd" = true)
    (q_law_odd : PySem.W.keepIn K (.ref f_law_odd) = true)
    (a_law_block : PySem.W.nsIn K mainGlobals "_law_block" = some (some (.ref f_law_block)))
    (l_law_block : K.lookup f_law_block = some ⟨oc_law_block, od_law_block, .func (PySem.W.fnOf "_law_block" "_law_block" (defArgs st_law_block) (defBody st_law_block) (defScope st_law_block) .none kV_law_block dc_law_block pm_law_block an_law_block cd_law_block ct_law_block), sl_law_block⟩)
    (c_law_block : PySem.W.codeIn K cd_law_block "_law_block" = true)
    (q_law_block : PySem.W.keepIn K (.ref f_law_block) = true)
    (a_law_spoilt_code : PySem.W.nsIn K mainGlobals "_law_spoilt_code" = some (some (.ref f_law_spoilt_code)))
    (l_law_spoilt_code : K.lookup f_law_spoilt_code = some ⟨oc_law_spoilt_code, od_law_spoilt_code, .func (PySem.W.fnOf "_law_spoilt_code" "_law_spoilt_code" (defArgs st_law_spoilt_code) (defBody st_law_spoilt_code) (defScope st_law_spoilt_code) .none kV_law_spoilt_code dc_law_spoilt_code pm_law_spoilt_code an_law_spoilt_code cd_law_spoilt_code ct_law_spoilt_code), sl_law_spoilt_code⟩)
    (c_law_spoilt_code : PySem.W.codeIn K cd_law_spoilt_code "_law_spoilt_code" = true)
    (q_law_spoilt_code : PySem.W.keepIn K (.ref f_law_spoilt_code) = true)
    (a_law_goes_on : PySem.W.nsIn K mainGlobals "_law_goes_on" = some (some (.ref f_law_goes_on)))
    (l_law_goes_on : K.lookup f_law_goes_on = some ⟨oc_law_goes_on, od_law_goes_on, .func (PySem.W.fnOf "_law_goes_on" "_law_goes_on" (defArgs st_law_goes_on) (defBody st_law_goes_on) (defScope st_law_goes_on) .none kV_law_goes_on dc_law_goes_on pm_law_goes_on an_law_goes_on cd_law_goes_on ct_law_goes_on), sl_law_goes_on⟩)
    (c_law_goes_on : PySem.W.codeIn K cd_law_goes_on "_law_goes_on" = true)
    (q_law_goes_on : PySem.W.keepIn K (.ref f_law_goes_on) = true)
    (a_law_block_of : PySem.W.nsIn K mainGlobals "_law_block_of" = some (some (.ref f_law_block_of)))
    (l_law_block_of : K.lookup f_law_block_of = some ⟨oc_law_block_of, od_law_block_of, .func (PySem.W.fnOf "_law_block_of" "_law_block_of" (defArgs st_law_block_of) (defBody st_law_block_of) (defScope st_law_block_of) .none kV_law_block_of dc_law_block_of pm_law_block_of an_law_block_of cd_law_block_of ct_law_block_of), sl_law_block_of⟩)
    (c_law_block_of : PySem.W.codeIn K cd_law_block_of "_law_block_of" = true)
    (q_law_block_of : PySem.W.keepIn K (.ref f_law_block_of) = true)
    (a_law_code_due : PySem.W.nsIn K mainGlobals "_law_code_due" = some (some (.ref f_law_code_due)))
    (l_law_code_due : K.lookup f_law_code_due = some ⟨oc_law_code_due, od_law_code_due, .func (PySem.W.fnOf "_law_code_due" "_law_code_due" (defArgs st_law_code_due) (defBody st_law_code_due) (defScope st_law_code_due) .none kV_law_code_due dc_law_code_due pm_law_code_due an_law_code_due cd_law_code_due ct_law_code_due), sl_law_code_due⟩)
    (c_law_code_due : PySem.W.codeIn K cd_law_code_due "_law_code_due" = true)
    (q_law_code_due : PySem.W.keepIn K (.ref f_law_code_due) = true)
    (a_law_which : PySem.W.nsIn K mainGlobals "_law_which" = some (some (.ref f_law_which)))
    (l_law_which : K.lookup f_law_which = some ⟨oc_law_which, od_law_which, .func (PySem.W.fnOf "_law_which" "_law_which" (defArgs st_law_which) (defBody st_law_which) (defScope st_law_which) .none kV_law_which dc_law_which pm_law_which an_law_which cd_law_which ct_law_which), sl_law_which⟩)
    (c_law_which : PySem.W.codeIn K cd_law_which "_law_which" = true)
    (q_law_which : PySem.W.keepIn K (.ref f_law_which) = true)
    (a_law_told : PySem.W.nsIn K mainGlobals "_law_told" = some (some (.ref f_law_told)))
    (l_law_told : K.lookup f_law_told = some ⟨oc_law_told, od_law_told, .func (PySem.W.fnOf "_law_told" "_law_told" (defArgs st_law_told) (defBody st_law_told) (defScope st_law_told) .none kV_law_told dc_law_told pm_law_told an_law_told cd_law_told ct_law_told), sl_law_told⟩)
    (c_law_told : PySem.W.codeIn K cd_law_told "_law_told" = true)
    (q_law_told : PySem.W.keepIn K (.ref f_law_told) = true)
    (a_NoCode_init : PySem.W.findIn K (.ref C_NoCode) "__init__" = some (some (.ref f_NoCode_init)))
    (fi_NoCode_init : PySem.W.typeIn K (.ref f_NoCode_init) = some (.type "function"))
    (l_NoCode_init : K.lookup f_NoCode_init = some ⟨oc_NoCode_init, od_NoCode_init, .func (PySem.W.fnOf "__init__" "NoCode.__init__" (defArgs st_NoCode_init) (defBody st_NoCode_init) (defScope st_NoCode_init) .none kV_NoCode_init dc_NoCode_init pm_NoCode_init an_NoCode_init cd_NoCode_init ct_NoCode_init), sl_NoCode_init⟩)
    (c_NoCode_init : PySem.W.codeIn K cd_NoCode_init "NoCode.__init__" = true)
    (q_NoCode_init : PySem.W.keepIn K (.ref f_NoCode_init) = true)
    (a_read_plain : PySem.W.nsIn K mainGlobals "read_plain" = some (some (.ref f_read_plain)))
    (l_read_plain : K.lookup f_read_plain = some ⟨oc_read_plain, od_read_plain, .func (PySem.W.fnOf "read_plain" "read_plain" (defArgs st_read_plain) (defBody st_read_plain) (defScope st_read_plain) .none kV_read_plain dc_read_plain pm_read_plain an_read_plain cd_read_plain ct_read_plain), sl_read_plain⟩)
    (c_read_plain : PySem.W.codeIn K cd_read_plain "read_plain" = true)
    (q_read_plain : PySem.W.keepIn K (.ref f_read_plain) = true)
    (a_read_number : PySem.W.nsIn K mainGlobals "read_number" = some (some (.ref f_read_number)))
    (l_read_number : K.lookup f_read_number = some ⟨oc_read_number, od_read_number, .func (PySem.W.fnOf "read_number" "read_number" (defArgs st_read_number) (defBody st_read_number) (defScope st_read_number) .none kV_read_number dc_read_number pm_read_number an_read_number cd_read_number ct_read_number), sl_read_number⟩)
    (c_read_number : PySem.W.codeIn K cd_read_number "read_number" = true)
    (q_read_number : PySem.W.keepIn K (.ref f_read_number) = true)
    (a_other_bit : PySem.W.nsIn K mainGlobals "other_bit" = some (some (.ref f_other_bit)))
    (l_other_bit : K.lookup f_other_bit = some ⟨oc_other_bit, od_other_bit, .func (PySem.W.fnOf "other_bit" "other_bit" (defArgs st_other_bit) (defBody st_other_bit) (defScope st_other_bit) .none kV_other_bit dc_other_bit pm_other_bit an_other_bit cd_other_bit ct_other_bit), sl_other_bit⟩)
    (c_other_bit : PySem.W.codeIn K cd_other_bit "other_bit" = true)
    (q_other_bit : PySem.W.keepIn K (.ref f_other_bit) = true)
    (a_read_runs : PySem.W.nsIn K mainGlobals "read_runs" = some (some (.ref f_read_runs)))
    (l_read_runs : K.lookup f_read_runs = some ⟨oc_read_runs, od_read_runs, .func (PySem.W.fnOf "read_runs" "read_runs" (defArgs st_read_runs) (defBody st_read_runs) (defScope st_read_runs) .none kV_read_runs dc_read_runs pm_read_runs an_read_runs cd_read_runs ct_read_runs), sl_read_runs⟩)
    (c_read_runs : PySem.W.codeIn K cd_read_runs "read_runs" = true)
    (q_read_runs : PySem.W.keepIn K (.ref f_read_runs) = true)
    (a_read_code : PySem.W.nsIn K mainGlobals "read_code" = some (some (.ref f_read_code)))
    (l_read_code : K.lookup f_read_code = some ⟨oc_read_code, od_read_code, .func (PySem.W.fnOf "read_code" "read_code" (defArgs st_read_code) (defBody st_read_code) (defScope st_read_code) .none kV_read_code dc_read_code pm_read_code an_read_code cd_read_code ct_read_code), sl_read_code⟩)
    (c_read_code : PySem.W.codeIn K cd_read_code "read_code" = true)
    (q_read_code : PySem.W.keepIn K (.ref f_read_code) = true)
    (a_law_looked_right : PySem.W.nsIn K mainGlobals "_law_looked_right" = some (some (.ref f_law_looked_right)))
    (l_law_looked_right : K.lookup f_law_looked_right = some ⟨oc_law_looked_right, od_law_looked_right, .func (PySem.W.fnOf "_law_looked_right" "_law_looked_right" (defArgs st_law_looked_right) (defBody st_law_looked_right) (defScope st_law_looked_right) .none kV_law_looked_right dc_law_looked_right pm_law_looked_right an_law_looked_right cd_law_looked_right ct_law_looked_right), sl_law_looked_right⟩)
    (c_law_looked_right : PySem.W.codeIn K cd_law_looked_right "_law_looked_right" = true)
    (q_law_looked_right : PySem.W.keepIn K (.ref f_law_looked_right) = true)
    (a_law : PySem.W.nsIn K mainGlobals "law" = some (some (.ref f_law)))
    (l_law : K.lookup f_law = some ⟨oc_law, od_law, .func (PySem.W.fnOf "law" "law" (defArgs st_law) (defBody st_law) (defScope st_law) .none kV_law dc_law pm_law an_law cd_law ct_law), sl_law⟩)
    (c_law : PySem.W.codeIn K cd_law "law" = true)
    (q_law : PySem.W.keepIn K (.ref f_law) = true)
    (r1 : PySem.W.nsIn K mainGlobals "READERS" = some (some (.ref d_READERS)))
    (r2 : K.lookup d_READERS = some ⟨.type "dict", none, .dict es_READERS m_READERS, #[]⟩)
    (r3 : PySem.W.KeysLit w.params es_READERS.toList)
    (r4 : (d_READERS == sysModules) = false)
    (r5 : PySem.W.nsIn K d_READERS "p" = some (some (.ref f_read_plain)))
    (r6 : PySem.W.nsIn K d_READERS "r" = some (some (.ref f_read_runs)))
    (r7 : ∀ z : List Nat, z ≠ [112] → z ≠ [114] → PySem.W.nsIn K d_READERS ⟨z.toArray⟩ = some none)
    (rk : refB K (refs C_NoCode C_CountError C_NoBits C_NoTree C_NoPage C_NoWord C_NoTurned C_NoStretch C_NoRow C_NoPlace C_NoNode C_NoLetter C_NoDeed C_Full C_Torn C_Busy) (.type "ValueError") (.ref C_CountError) = true)
    (tt_law_looked_right : tabB K "_law_looked_right" = true)
    : (∀ x ∈ (["_law_looked_right"] : List Str), ∃ c, PySem.W.tabIn K x = some (c, tabP K x) ∧ K.lookup (tabP K x) = none) ∧ ((["_law_looked_right"] : List Str).map (tabP K)).Nodup ∧
      ∃ fd : FuncData, (∀ (s : Shared) (v : Value), BindsTo s fd ⟨[v], []⟩ [("_law_script", v)]) ∧ ∀ base : Heap, K.In base → base.Ns mainGlobals mg → (∀ x ∈ (["_law_looked_right"] : List Str), TabK K mg base x) → FnG PySem.Challenge.rw_countedbits_k04_what_are_no_codes.prog w K mg base 9 fa fd ["_law_script"] (sp_law K) := by
  have e := hfa.symm.trans (PySem.W.mg_of X Gm a_law)
  cases e
  have gg : G mg := ⟨PySem.W.mg_none_of X Gm n_IndexError, PySem.W.mg_none_of X Gm n_KeyError, PySem.W.mg_none_of X Gm n_LookupError, PySem.W.mg_none_of X Gm n_OverflowError, PySem.W.mg_none_of X Gm n_RuntimeError, PySem.W.mg_none_of X Gm n_ValueError, PySem.W.mg_none_of X Gm n_abs, PySem.W.mg_none_of X Gm n_all, PySem.W.mg_none_of X Gm n_enumerate, PySem.W.mg_none_of X Gm n_int, PySem.W.mg_none_of X Gm n_isinstance, PySem.W.mg_none_of X Gm n_len, PySem.W.mg_none_of X Gm n_max, PySem.W.mg_none_of X Gm n_min, PySem.W.mg_none_of X Gm n_range, PySem.W.mg_none_of X Gm n_repr, PySem.W.mg_none_of X Gm n_str, k_MOST_BITS, k_BITS⟩
  have gl_NoCode : mg "NoCode" = some (.ref C_NoCode) := PySem.W.mg_of X Gm a_NoCode
  have gl_CountError : mg "CountError" = some (.ref C_CountError) := PySem.W.mg_of X Gm a_CountError
  have gl_Busy : mg "Busy" = some (.ref C_Busy) := PySem.W.mg_of X Gm a_Busy
  have gl_Full : mg "Full" = some (.ref C_Full) := PySem.W.mg_of X Gm a_Full
  have gl_NoBits : mg "NoBits" = some (.ref C_NoBits) := PySem.W.mg_of X Gm a_NoBits
  have gl_NoDeed : mg "NoDeed" = some (.ref C_NoDeed) := PySem.W.mg_of X Gm a_NoDeed
  have gl_NoLetter : mg "NoLetter" = some (.ref C_NoLetter) := PySem.W.mg_of X Gm a_NoLetter
  have gl_NoNode : mg "NoNode" = some (.ref C_NoNode) := PySem.W.mg_of X Gm a_NoNode
  have gl_NoPage : mg "NoPage" = some (.ref C_NoPage) := PySem.W.mg_of X Gm a_NoPage
  have gl_NoPlace : mg "NoPlace" = some (.ref C_NoPlace) := PySem.W.mg_of X Gm a_NoPlace
  have gl_NoRow : mg "NoRow" = some (.ref C_NoRow) := PySem.W.mg_of X Gm a_NoRow
  have gl_NoStretch : mg "NoStretch" = some (.ref C_NoStretch) := PySem.W.mg_of X Gm a_NoStretch
  have gl_NoTree : mg "NoTree" = some (.ref C_NoTree) := PySem.W.mg_of X Gm a_NoTree
  have gl_NoTurned : mg "NoTurned" = some (.ref C_NoTurned) := PySem.W.mg_of X Gm a_NoTurned
  have gl_NoWord : mg "NoWord" = some (.ref C_NoWord) := PySem.W.mg_of X Gm a_NoWord
  have gl_Torn : mg "Torn" = some (.ref C_Torn) := PySem.W.mg_of X Gm a_Torn
  have TE_NoCode : ErrC K C_NoCode "ValueError.__new__" "ValueError.__init__" := ⟨⟨_, _, _, _, _, [C_CountError], _, _, _, _, _, _, _, _, _, _, tail_ValueError, x_NoCode⟩, sa_NoCode, ex_NoCode, ty_NoCode, kc_NoCode⟩
  have F_law_urn : Txt K "_law_urn" "_law_urn" (defArgs st_law_urn) (defBody st_law_urn) (defScope st_law_urn) .none kV_law_urn f_law_urn _ := ⟨⟨_, _, _, _, _, _, _, _, rfl, l_law_urn, c_law_urn⟩, q_law_urn⟩
  have F_law_number_code : Txt K "_law_number_code" "_law_number_code" (defArgs st_law_number_code) (defBody st_law_number_code) (defScope st_law_number_code) .none kV_law_number_code f_law_number_code _ := ⟨⟨_, _, _, _, _, _, _, _, rfl, l_law_number_code, c_law_number_code⟩, q_law_number_code⟩
  have F_law_runs : Txt K "_law_runs" "_law_runs" (defArgs st_law_runs) (defBody st_law_runs) (defScope st_law_runs) .none kV_law_runs f_law_runs _ := ⟨⟨_, _, _, _, _, _, _, _, rfl, l_law_runs, c_law_runs⟩, q_law_runs⟩
  have F_law_codes : Txt K "_law_codes" "_law_codes" (defArgs st_law_codes) (defBody st_law_codes) (defScope st_law_codes) .none kV_law_codes f_law_codes _ := ⟨⟨_, _, _, _, _, _, _, _, rfl, l_law_codes, c_law_codes⟩, q_law_codes⟩
  have F_law_draw : Txt K "_law_draw" "_law_draw" (defArgs st_law_draw) (defBody st_law_draw) (defScope st_law_draw) .none kV_law_draw f_law_draw _ := ⟨⟨_, _, _, _, _, _, _, _, rfl, l_law_draw, c_law_draw⟩, q_law_draw⟩
  have F_law_bits : Txt K "_law_bits" "_law_bits" (defArgs st_law_bits) (defBody st_law_bits) (defScope st_law_bits) .none kV_law_bits f_law_bits _ := ⟨⟨_, _, _, _, _, _, _, _, rfl, l_law_bits, c_law_bits⟩, q_law_bits⟩
  have F_law_odd : Txt K "_law_odd" "_law_odd" (defArgs st_law_odd) (defBody st_law_odd) (defScope st_law_odd) .none kV_law_odd f_law_odd _ := ⟨⟨_, _, _, _, _, _, _, _, rfl, l_law_odd, c_law_odd⟩, q_law_odd⟩
  have F_law_block : Txt K "_law_block" "_law_block" (defArgs st_law_block) (defBody st_law_block) (defScope st_law_block) .none kV_law_block f_law_block _ := ⟨⟨_, _, _, _, _, _, _, _, rfl, l_law_block, c_law_block⟩, q_law_block⟩
  have F_law_spoilt_code : Txt K "_law_spoilt_code" "_law_spoilt_code" (defArgs st_law_spoilt_code) (defBody st_law_spoilt_code) (defScope st_law_spoilt_code) .none kV_law_spoilt_code f_law_spoilt_code _ := ⟨⟨_, _, _, _, _, _, _, _, rfl, l_law_spoilt_code, c_law_spoilt_code⟩, q_law_spoilt_code⟩
  have F_law_goes_on : Txt K "_law_goes_on" "_law_goes_on" (defArgs st_law_goes_on) (defBody st_law_goes_on) (defScope st_law_goes_on) .none kV_law_goes_on f_law_goes_on _ := ⟨⟨_, _, _, _, _, _, _, _, rfl, l_law_goes_on, c_law_goes_on⟩, q_law_goes_on⟩
  have F_law_block_of : Txt K "_law_block_of" "_law_block_of" (defArgs st_law_block_of) (defBody st_law_block_of) (defScope st_law_block_of) .none kV_law_block_of f_law_block_of _ := ⟨⟨_, _, _, _, _, _, _, _, rfl, l_law_block_of, c_law_block_of⟩, q_law_block_of⟩
  have F_law_code_due : Txt K "_law_code_due" "_law_code_due" (defArgs st_law_code_due) (defBody st_law_code_due) (defScope st_law_code_due) .none kV_law_code_due f_law_code_due _ := ⟨⟨_, _, _, _, _, _, _, _, rfl, l_law_code_due, c_law_code_due⟩, q_law_code_due⟩
  have F_law_which : Txt K "_law_which" "_law_which" (defArgs st_law_which) (defBody st_law_which) (defScope st_law_which) .none kV_law_which f_law_which _ := ⟨⟨_, _, _, _, _, _, _, _, rfl, l_law_which, c_law_which⟩, q_law_which⟩
  have F_law_told : Txt K "_law_told" "_law_told" (defArgs st_law_told) (defBody st_law_told) (defScope st_law_told) .none kV_law_told f_law_told _ := ⟨⟨_, _, _, _, _, _, _, _, rfl, l_law_told, c_law_told⟩, q_law_told⟩
  have F_NoCode_init : Txt K "__init__" "NoCode.__init__" (defArgs st_NoCode_init) (defBody st_NoCode_init) (defScope st_NoCode_init) .none kV_NoCode_init f_NoCode_init _ := ⟨⟨_, _, _, _, _, _, _, _, rfl, l_NoCode_init, c_NoCode_init⟩, q_NoCode_init⟩
  have F_read_plain : Txt K "read_plain" "read_plain" (defArgs st_read_plain) (defBody st_read_plain) (defScope st_read_plain) .none kV_read_plain f_read_plain _ := ⟨⟨_, _, _, _, _, _, _, _, rfl, l_read_plain, c_read_plain⟩, q_read_plain⟩
  have F_read_number : Txt K "read_number" "read_number" (defArgs st_read_number) (defBody st_read_number) (defScope st_read_number) .none kV_read_number f_read_number _ := ⟨⟨_, _, _, _, _, _, _, _, rfl, l_read_number, c_read_number⟩, q_read_number⟩
  have F_other_bit : Txt K "other_bit" "other_bit" (defArgs st_other_bit) (defBody st_other_bit) (defScope st_other_bit) .none kV_other_bit f_other_bit _ := ⟨⟨_, _, _, _, _, _, _, _, rfl, l_other_bit, c_other_bit⟩, q_other_bit⟩
  have F_read_runs : Txt K "read_runs" "read_runs" (defArgs st_read_runs) (defBody st_read_runs) (defScope st_read_runs) .none kV_read_runs f_read_runs _ := ⟨⟨_, _, _, _, _, _, _, _, rfl, l_read_runs, c_read_runs⟩, q_read_runs⟩
  have F_read_code : Txt K "read_code" "read_code" (defArgs st_read_code) (defBody st_read_code) (defScope st_read_code) .none kV_read_code f_read_code _ := ⟨⟨_, _, _, _, _, _, _, _, rfl, l_read_code, c_read_code⟩, q_read_code⟩
  have F_law_looked_right : Txt K "_law_looked_right" "_law_looked_right" (defArgs st_law_looked_right) (defBody st_law_looked_right) (defScope st_law_looked_right) .none kV_law_looked_right f_law_looked_right _ := ⟨⟨_, _, _, _, _, _, _, _, rfl, l_law_looked_right, c_law_looked_right⟩, q_law_looked_right⟩
  have F_law : Txt K "law" "law" (defArgs st_law) (defBody st_law) (defScope st_law) .none kV_law fa _ := ⟨⟨_, _, _, _, _, _, _, _, rfl, l_law, c_law⟩, q_law⟩
  have go : ∀ base : Heap, (∀ x ∈ (["_law_looked_right"] : List Str), TabK K mg base x) → FnG PySem.Challenge.rw_countedbits_k04_what_are_no_codes.prog w K mg base 9 fa (PySem.W.fnOf "law" "law" (defArgs st_law) (defBody st_law) (defScope st_law) .none kV_law dc_law pm_law an_law cd_law ct_law) ["_law_script"] (sp_law K) := fun base tabs => by
    have tb_law_looked_right : Tb K mg base "_law_looked_right" f_law_looked_right := ⟨a_law_looked_right, tabs _ (by simp)⟩
    have R_law_urn : FnG PySem.Challenge.rw_countedbits_k04_what_are_no_codes.prog w K mg base 1 f_law_urn _ ["_law_script", "_law_spot"] (sp_law_urn K) := ok_law_urn gg F_law_urn  
    have D_law_urn : Def PySem.Challenge.rw_countedbits_k04_what_are_no_codes.prog w K mg base 1 "_law_urn" [] (sp_law_urn K) := ⟨_, _, _, _, R_law_urn, PySem.W.mg_of X Gm a_law_urn, q_law_urn, Binds.all (fun us hl => match us, hl with | [_, _], _ => rfl), .nil⟩
    have R_law_number_code : FnG PySem.Challenge.rw_countedbits_k04_what_are_no_codes.prog w K mg base 1 f_law_number_code _ ["_law_number"] (sp_law_number_code) := ok_law_number_code gg F_law_number_code  
    have D_law_number_code : Def PySem.Challenge.rw_countedbits_k04_what_are_no_codes.prog w K mg base 1 "_law_number_code" [] (sp_law_number_code) := ⟨_, _, _, _, R_law_number_code, PySem.W.mg_of X Gm a_law_number_code, q_law_number_code, Binds.all (fun us hl => match us, hl with | [_], _ => rfl), .nil⟩
    have R_law_runs : FnG PySem.Challenge.rw_countedbits_k04_what_are_no_codes.prog w K mg base 1 f_law_runs _ ["_law_row_text"] (sp_law_runs) := ok_law_runs gg F_law_runs  
    have D_law_runs : Def PySem.Challenge.rw_countedbits_k04_what_are_no_codes.prog w K mg base 1 "_law_runs" [] (sp_law_runs) := ⟨_, _, _, _, R_law_runs, PySem.W.mg_of X Gm a_law_runs, q_law_runs, Binds.all (fun us hl => match us, hl with | [_], _ => rfl), .nil⟩
    have R_law_codes : FnG PySem.Challenge.rw_countedbits_k04_what_are_no_codes.prog w K mg base 2 f_law_codes _ ["_law_row_text"] (sp_law_codes) := ok_law_codes gg F_law_codes D_law_number_code D_law_runs 
    have D_law_codes : Def PySem.Challenge.rw_countedbits_k04_what_are_no_codes.prog w K mg base 2 "_law_codes" [] (sp_law_codes) := ⟨_, _, _, _, R_law_codes, PySem.W.mg_of X Gm a_law_codes, q_law_codes, Binds.all (fun us hl => match us, hl with | [_], _ => rfl), .nil⟩
    have R_law_draw : FnG PySem.Challenge.rw_countedbits_k04_what_are_no_codes.prog w K mg base 1 f_law_draw _ ["_law_urn_here", "_law_wide"] (sp_law_draw) := ok_law_draw gg F_law_draw  
    have D_law_draw : Def PySem.Challenge.rw_countedbits_k04_what_are_no_codes.prog w K mg base 1 "_law_draw" [] (sp_law_draw) := ⟨_, _, _, _, R_law_draw, PySem.W.mg_of X Gm a_law_draw, q_law_draw, Binds.all (fun us hl => match us, hl with | [_, _], _ => rfl), .nil⟩
    have R_law_bits : FnG PySem.Challenge.rw_countedbits_k04_what_are_no_codes.prog w K mg base 2 f_law_bits _ ["_law_urn_here", "_law_most"] (sp_law_bits) := ok_law_bits gg F_law_bits D_law_draw 
    have D_law_bits : Def PySem.Challenge.rw_countedbits_k04_what_are_no_codes.prog w K mg base 2 "_law_bits" [] (sp_law_bits) := ⟨_, _, _, _, R_law_bits, PySem.W.mg_of X Gm a_law_bits, q_law_bits, Binds.all (fun us hl => match us, hl with | [_, _], _ => rfl), .nil⟩
    have R_law_odd : FnG PySem.Challenge.rw_countedbits_k04_what_are_no_codes.prog w K mg base 2 f_law_odd _ ["_law_urn_here"] (sp_law_odd) := ok_law_odd gg F_law_odd D_law_draw 
    have D_law_odd : Def PySem.Challenge.rw_countedbits_k04_what_are_no_codes.prog w K mg base 2 "_law_odd" [] (sp_law_odd) := ⟨_, _, _, _, R_law_odd, PySem.W.mg_of X Gm a_law_odd, q_law_odd, Binds.all (fun us hl => match us, hl with | [_], _ => rfl), .nil⟩
    have R_law_block : FnG PySem.Challenge.rw_countedbits_k04_what_are_no_codes.prog w K mg base 3 f_law_block _ ["_law_urn_here"] (sp_law_block) := ok_law_block gg F_law_block D_law_bits D_law_draw 
    have D_law_block : Def PySem.Challenge.rw_countedbits_k04_what_are_no_codes.prog w K mg base 3 "_law_block" [] (sp_law_block) := ⟨_, _, _, _, R_law_block, PySem.W.mg_of X Gm a_law_block, q_law_block, Binds.all (fun us hl => match us, hl with | [_], _ => rfl), .nil⟩
    have R_law_spoilt_code : FnG PySem.Challenge.rw_countedbits_k04_what_are_no_codes.prog w K mg base 2 f_law_spoilt_code _ ["_law_urn_here", "_law_written"] (sp_law_spoilt_code) := ok_law_spoilt_code gg F_law_spoilt_code D_law_draw 
    have D_law_spoilt_code : Def PySem.Challenge.rw_countedbits_k04_what_are_no_codes.prog w K mg base 2 "_law_spoilt_code" [] (sp_law_spoilt_code) := ⟨_, _, _, _, R_law_spoilt_code, PySem.W.mg_of X Gm a_law_spoilt_code, q_law_spoilt_code, Binds.all (fun us hl => match us, hl with | [_, _], _ => rfl), .nil⟩
    have R_law_goes_on : FnG PySem.Challenge.rw_countedbits_k04_what_are_no_codes.prog w K mg base 1 f_law_goes_on _ ["_law_row_text"] (sp_law_goes_on) := ok_law_goes_on gg F_law_goes_on  
    have D_law_goes_on : Def PySem.Challenge.rw_countedbits_k04_what_are_no_codes.prog w K mg base 1 "_law_goes_on" [] (sp_law_goes_on) := ⟨_, _, _, _, R_law_goes_on, PySem.W.mg_of X Gm a_law_goes_on, q_law_goes_on, Binds.all (fun us hl => match us, hl with | [_], _ => rfl), .nil⟩
    have R_law_block_of : FnG PySem.Challenge.rw_countedbits_k04_what_are_no_codes.prog w K mg base 1 f_law_block_of _ ["_law_row_text"] (sp_law_block_of) := ok_law_block_of gg F_law_block_of  
    have D_law_block_of : Def PySem.Challenge.rw_countedbits_k04_what_are_no_codes.prog w K mg base 1 "_law_block_of" [] (sp_law_block_of) := ⟨_, _, _, _, R_law_block_of, PySem.W.mg_of X Gm a_law_block_of, q_law_block_of, Binds.all (fun us hl => match us, hl with | [_], _ => rfl), .nil⟩
    have R_law_code_due : FnG PySem.Challenge.rw_countedbits_k04_what_are_no_codes.prog w K mg base 2 f_law_code_due _ ["_law_thing"] (sp_law_code_due) := ok_law_code_due gg F_law_code_due D_law_goes_on D_law_block_of 
    have D_law_code_due : Def PySem.Challenge.rw_countedbits_k04_what_are_no_codes.prog w K mg base 2 "_law_code_due" [] (sp_law_code_due) := ⟨_, _, _, _, R_law_code_due, PySem.W.mg_of X Gm a_law_code_due, q_law_code_due, Binds.all (fun us hl => match us, hl with | [_], _ => rfl), .nil⟩
    have D_law_which : DefW PySem.Challenge.rw_countedbits_k04_what_are_no_codes.prog w K mg base 1 "_law_which" (spWhich (refs C_NoCode C_CountError C_NoBits C_NoTree C_NoPage C_NoWord C_NoTurned C_NoStretch C_NoRow C_NoPlace C_NoNode C_NoLetter C_NoDeed C_Full C_Torn C_Busy)) := ⟨_, _, _, ok_law_which gg F_law_which gl_Busy gl_CountError gl_Full gl_NoBits gl_NoCode gl_NoDeed gl_NoLetter gl_NoNode gl_NoPage gl_NoPlace gl_NoRow gl_NoStretch gl_NoTree gl_NoTurned gl_NoWord gl_Torn rk , PySem.W.mg_of X Gm a_law_which, q_law_which, Binds.all (fun us hl => match us, hl with | [_], _ => rfl)⟩
    have D_law_told : GivT PySem.Challenge.rw_countedbits_k04_what_are_no_codes.prog w K mg base 1 "_law_told" (tTold (refs C_NoCode C_CountError C_NoBits C_NoTree C_NoPage C_NoWord C_NoTurned C_NoStretch C_NoRow C_NoPlace C_NoNode C_NoLetter C_NoDeed C_Full C_Torn C_Busy)) := ok_law_told gg F_law_told gl_Busy gl_Full gl_NoBits gl_NoCode gl_NoDeed gl_NoLetter gl_NoNode gl_NoPage gl_NoPlace gl_NoRow gl_NoStretch gl_NoTree gl_NoTurned gl_NoWord gl_Torn D_law_which rk  (PySem.W.mg_of X Gm a_law_told) (Binds.all (fun us hl => match us, hl with | [_], _ => rfl))
    have R_NoCode_init : FnG PySem.Challenge.rw_countedbits_k04_what_are_no_codes.prog w K mg base 1 f_NoCode_init _ ["self", "at"] (spErr C_NoCode "at") := ok_NoCode_init gg F_NoCode_init TE_NoCode no_NoCode gl_CountError rd_CountError ga_CountError vV_CountError 
    have X_NoCode : MkErr PySem.Challenge.rw_countedbits_k04_what_are_no_codes.prog w K mg base 1 "NoCode" C_NoCode "at" := ⟨⟨_, _, TE_NoCode⟩, gl_NoCode, _, _, _, R_NoCode_init, a_NoCode_init, fi_NoCode_init, Binds.all (fun us hl => match us, hl with | [_, _], _ => rfl)⟩
    have R_read_plain : FnG PySem.Challenge.rw_countedbits_k04_what_are_no_codes.prog w K mg base 3 f_read_plain _ ["text"] (sp_read_plain C_NoCode) := ok_read_plain gg F_read_plain X_NoCode 
    have D_read_plain : Def PySem.Challenge.rw_countedbits_k04_what_are_no_codes.prog w K mg base 3 "read_plain" [] (sp_read_plain C_NoCode) := ⟨_, _, _, _, R_read_plain, PySem.W.mg_of X Gm a_read_plain, q_read_plain, Binds.all (fun us hl => match us, hl with | [_], _ => rfl), .nil⟩
    have R_read_number : FnG PySem.Challenge.rw_countedbits_k04_what_are_no_codes.prog w K mg base 3 f_read_number _ ["text", "at", "room"] (sp_read_number C_NoCode) := ok_read_number gg F_read_number X_NoCode 
    have D_read_number : Def PySem.Challenge.rw_countedbits_k04_what_are_no_codes.prog w K mg base 3 "read_number" [] (sp_read_number C_NoCode) := ⟨_, _, _, _, R_read_number, PySem.W.mg_of X Gm a_read_number, q_read_number, Binds.all (fun us hl => match us, hl with | [_, _, _], _ => rfl), .nil⟩
    have R_other_bit : FnG PySem.Challenge.rw_countedbits_k04_what_are_no_codes.prog w K mg base 1 f_other_bit _ ["bit"] (sp_other_bit) := ok_other_bit gg F_other_bit  
    have D_other_bit : Def PySem.Challenge.rw_countedbits_k04_what_are_no_codes.prog w K mg base 1 "other_bit" [] (sp_other_bit) := ⟨_, _, _, _, R_other_bit, PySem.W.mg_of X Gm a_other_bit, q_other_bit, Binds.all (fun us hl => match us, hl with | [_], _ => rfl), .nil⟩
    have R_read_runs : FnG PySem.Challenge.rw_countedbits_k04_what_are_no_codes.prog w K mg base 4 f_read_runs _ ["text"] (sp_read_runs C_NoCode) := ok_read_runs gg F_read_runs X_NoCode D_read_number D_other_bit 
    have D_read_runs : Def PySem.Challenge.rw_countedbits_k04_what_are_no_codes.prog w K mg base 4 "read_runs" [] (sp_read_runs C_NoCode) := ⟨_, _, _, _, R_read_runs, PySem.W.mg_of X Gm a_read_runs, q_read_runs, Binds.all (fun us hl => match us, hl with | [_], _ => rfl), .nil⟩
    have e_p : (Str.ofString "p") = (⟨([112] : List Nat).toArray⟩ : Str) := by decide +kernel
    have e_r : (Str.ofString "r") = (⟨([114] : List Nat).toArray⟩ : Str) := by decide +kernel
    have A_reader : ∀ f sp, S_read_code C_NoCode f_read_plain f_read_runs f sp → HeldG PySem.Challenge.rw_countedbits_k04_what_are_no_codes.prog w K mg base 4 f sp := by
      rintro f sp (⟨rfl, rfl⟩ | ⟨rfl, rfl⟩)
      · exact ⟨⟨_, _, R_read_plain.mono (by decide), q_read_plain, Binds.all (fun us hl => match us, hl with | [_], _ => rfl)⟩⟩
      · exact ⟨⟨_, _, R_read_runs.mono (by decide), q_read_runs, Binds.all (fun us hl => match us, hl with | [_], _ => rfl)⟩⟩
    have R_read_code : FnG PySem.Challenge.rw_countedbits_k04_what_are_no_codes.prog w K mg base 5 f_read_code _ ["text"] (sp_read_code C_NoCode) := ok_read_code gg F_read_code X_NoCode (PySem.W.mg_of X Gm r1) ⟨_, _, ⟨r2, r3, r4⟩, e_p ▸ r5⟩ ⟨_, _, ⟨r2, r3, r4⟩, e_r ▸ r6⟩ (fun z h1 h2 => ⟨_, _, ⟨r2, r3, r4⟩, r7 z h1 h2⟩) A_reader
    have D_read_code : Def PySem.Challenge.rw_countedbits_k04_what_are_no_codes.prog w K mg base 5 "read_code" [] (sp_read_code C_NoCode) := ⟨_, _, _, _, R_read_code, PySem.W.mg_of X Gm a_read_code, q_read_code, Binds.all (fun us hl => match us, hl with | [_], _ => rfl), .nil⟩
    have R_law_looked_right : FnG PySem.Challenge.rw_countedbits_k04_what_are_no_codes.prog w K mg base 8 f_law_looked_right _ ["_law_thing"] (sp_law_looked_right K) := ok_law_looked_right gg F_law_looked_right D_law_code_due D_law_told D_read_code tb_law_looked_right 
    have D_law_looked_right : Def PySem.Challenge.rw_countedbits_k04_what_are_no_codes.prog w K mg base 8 "_law_looked_right" [] (sp_law_looked_right K) := ⟨_, _, _, _, R_law_looked_right, PySem.W.mg_of X Gm a_law_looked_right, q_law_looked_right, Binds.all (fun us hl => match us, hl with | [_], _ => rfl), .nil⟩
    exact ok_law gg F_law D_law_urn D_law_codes D_law_bits D_law_odd D_law_block D_law_draw D_law_spoilt_code D_law_number_code D_law_looked_right 
  refine ⟨fun x hx => ?_, ?_, _, fun s v => .of_eq rfl, fun base _ _ tabs => go base tabs⟩
  · simp only [List.mem_cons, List.not_mem_nil, or_false] at hx
    subst hx
    · exact tabB_ok tt_law_looked_right
  · exact List.nodup_cons.mpr ⟨List.not_mem_nil, List.nodup_nil⟩
theorem all_says {w : World} {K : PySem.W.Frag} {h : Heap} {mg : Str → Option Value} {fa : Addr} (X : K.In h) (Gm : h.Ns mainGlobals mg) (hfa : mg "law" = some (.ref fa)) (c : Z.SaysZ fb fs ts w K) :
    (∀ x ∈ (["_law_looked_right"] : List Str), ∃ c, PySem.W.tabIn K x = some (c, tabP K x) ∧ K.lookup (tabP K x) = none) ∧ ((["_law_looked_right"] : List Str).map (tabP K)).Nodup ∧ ∃ fd : FuncData, (∀ (s : Shared) (v : Value), BindsTo s fd ⟨[v], []⟩ [("_law_script", v)]) ∧ ∀ base : Heap, K.In base → base.Ns mainGlobals mg → (∀ x ∈ (["_law_looked_right"] : List Str), TabK K mg base x) → FnG PySem.Challenge.rw_countedbits_k04_what_are_no_codes.prog w K mg base 9 fa fd ["_law_script"] (sp_law K) := by
  have z : ((fb0 K).all id && ((fb1 K).all id && ((fb2 K).all id && ((fb3 K).all id && ((fb4 K).all id && ((fb5 K).all id && ((fb6 K).all id && ((fb7 K).all id && ((fb8 K).all id && ((fb9 K).all id && (true))))))))))) = true := c.fact
  obtain ⟨z0, z⟩ := He.ba z
  obtain ⟨z1, z⟩ := He.ba z
  obtain ⟨z2, z⟩ := He.ba z
  obtain ⟨z3, z⟩ := He.ba z
  obtain ⟨z4, z⟩ := He.ba z
  obtain ⟨z5, z⟩ := He.ba z
  obtain ⟨z6, z⟩ := He.ba z
  obtain ⟨z7, z⟩ := He.ba z
  obtain ⟨z8, z⟩ := He.ba z
  obtain ⟨z9, z⟩ := He.ba z
  obtain ⟨oc_law_urn, od_law_urn, dV_law_urn, kV_law_urn, dc_law_urn, pm_law_urn, an_law_urn, cd_law_urn, ct_law_urn, sl_law_urn, l_law_urn, y_law_urn⟩ := Z.fn_at (c.fn 0) (Z.all_get z0 0)
  obtain ⟨c_law_urn, y_law_urn⟩ := He.ba y_law_urn
  obtain ⟨y_law_urn, ky_law_urn⟩ := He.ba y_law_urn
  obtain rfl := Z.none_ok y_law_urn
  obtain ⟨oc_law_number_code, od_law_number_code, dV_law_number_code, kV_law_number_code, dc_law_number_code, pm_law_number_code, an_law_number_code, cd_law_number_code, ct_law_number_code, sl_law_number_code, l_law_number_code, y_law_number_code⟩ := Z.fn_at (c.fn 1) (Z.all_get z0 1)
  obtain ⟨c_law_number_code, y_law_number_code⟩ := He.ba y_law_number_code
  obtain ⟨y_law_number_code, ky_law_number_code⟩ := He.ba y_law_number_code
  obtain rfl := Z.none_ok y_law_number_code
  obtain ⟨oc_law_runs, od_law_runs, dV_law_runs, kV_law_runs, dc_law_runs, pm_law_runs, an_law_runs, cd_law_runs, ct_law_runs, sl_law_runs, l_law_runs, y_law_runs⟩ := Z.fn_at (c.fn 2) (Z.all_get z0 2)
  obtain ⟨c_law_runs, y_law_runs⟩ := He.ba y_law_runs
  obtain ⟨y_law_runs, ky_law_runs⟩ := He.ba y_law_runs
  obtain rfl := Z.none_ok y_law_runs
  obtain ⟨oc_law_codes, od_law_codes, dV_law_codes, kV_law_codes, dc_law_codes, pm_law_codes, an_law_codes, cd_law_codes, ct_law_codes, sl_law_codes, l_law_codes, y_law_codes⟩ := Z.fn_at (c.fn 3) (Z.all_get z0 3)
  obtain ⟨c_law_codes, y_law_codes⟩ := He.ba y_law_codes
  obtain ⟨y_law_codes, ky_law_codes⟩ := He.ba y_law_codes
  obtain rfl := Z.none_ok y_law_codes
  obtain ⟨oc_law_draw, od_law_draw, dV_law_draw, kV_law_draw, dc_law_draw, pm_law_draw, an_law_draw, cd_law_draw, ct_law_draw, sl_law_draw, l_law_draw, y_law_draw⟩ := Z.fn_at (c.fn 4) (Z.all_get z0 4)
  obtain ⟨c_law_draw, y_law_draw⟩ := He.ba y_law_draw
  obtain ⟨y_law_draw, ky_law_draw⟩ := He.ba y_law_draw
  obtain rfl := Z.none_ok y_law_draw
  obtain ⟨oc_law_bits, od_law_bits, dV_law_bits, kV_law_bits, dc_law_bits, pm_law_bits, an_law_bits, cd_law_bits, ct_law_bits, sl_law_bits, l_law_bits, y_law_bits⟩ := Z.fn_at (c.fn 5) (Z.all_get z0 5)
  obtain ⟨c_law_bits, y_law_bits⟩ := He.ba y_law_bits
  obtain ⟨y_law_bits, ky_law_bits⟩ := He.ba y_law_bits
  obtain rfl := Z.none_ok y_law_bits
  obtain ⟨oc_law_odd, od_law_odd, dV_law_odd, kV_law_odd, dc_law_odd, pm_law_odd, an_law_odd, cd_law_odd, ct_law_odd, sl_law_odd, l_law_odd, y_law_odd⟩ := Z.fn_at (c.fn 6) (Z.all_get z0 6)
  obtain ⟨c_law_odd, y_law_odd⟩ := He.ba y_law_odd
  obtain ⟨y_law_odd, ky_law_odd⟩ := He.ba y_law_odd
  obtain rfl := Z.none_ok y_law_odd
  obtain ⟨oc_law_block, od_law_block, dV_law_block, kV_law_block, dc_law_block, pm_law_block, an_law_block, cd_law_block, ct_law_block, sl_law_block, l_law_block, y_law_block⟩ := Z.fn_at (c.fn 7) (Z.all_get z0 7)
  obtain ⟨c_law_block, y_law_block⟩ := He.ba y_law_block
  obtain ⟨y_law_block, ky_law_block⟩ := He.ba y_law_block
  obtain rfl := Z.none_ok y_law_block
  obtain ⟨oc_law_spoilt_code, od_law_spoilt_code, dV_law_spoilt_code, kV_law_spoilt_code, dc_law_spoilt_code, pm_law_spoilt_code, an_law_spoilt_code, cd_law_spoilt_code, ct_law_spoilt_code, sl_law_spoilt_code, l_law_spoilt_code, y_law_spoilt_code⟩ := Z.fn_at (c.fn 8) (Z.all_get z0 8)
  obtain ⟨c_law_spoilt_code, y_law_spoilt_code⟩ := He.ba y_law_spoilt_code
  obtain ⟨y_law_spoilt_code, ky_law_spoilt_code⟩ := He.ba y_law_spoilt_code
  obtain rfl := Z.none_ok y_law_spoilt_code
  obtain ⟨oc_law_goes_on, od_law_goes_on, dV_law_goes_on, kV_law_goes_on, dc_law_goes_on, pm_law_goes_on, an_law_goes_on, cd_law_goes_on, ct_law_goes_on, sl_law_goes_on, l_law_goes_on, y_law_goes_on⟩ := Z.fn_at (c.fn 9) (Z.all_get z0 9)
  obtain ⟨c_law_goes_on, y_law_goes_on⟩ := He.ba y_law_goes_on
  obtain ⟨y_law_goes_on, ky_law_goes_on⟩ := He.ba y_law_goes_on
  obtain rfl := Z.none_ok y_law_goes_on
  obtain ⟨oc_law_block_of, od_law_block_of, dV_law_block_of, kV_law_block_of, dc_law_block_of, pm_law_block_of, an_law_block_of, cd_law_block_of, ct_law_block_of, sl_law_block_of, l_law_block_of, y_law_block_of⟩ := Z.fn_at (c.fn 10) (Z.all_get z0 10)
  obtain ⟨c_law_block_of, y_law_block_of⟩ := He.ba y_law_block_of
  obtain ⟨y_law_block_of, ky_law_block_of⟩ := He.ba y_law_block_of
  obtain rfl := Z.none_ok y_law_block_of
  obtain ⟨oc_law_code_due, od_law_code_due, dV_law_code_due, kV_law_code_due, dc_law_code_due, pm_law_code_due, an_law_code_due, cd_law_code_due, ct_law_code_due, sl_law_code_due, l_law_code_due, y_law_code_due⟩ := Z.fn_at (c.fn 11) (Z.all_get z0 11)
  obtain ⟨c_law_code_due, y_law_code_due⟩ := He.ba y_law_code_due
  obtain ⟨y_law_code_due, ky_law_code_due⟩ := He.ba y_law_code_due
  obtain rfl := Z.none_ok y_law_code_due
  obtain ⟨oc_law_which, od_law_which, dV_law_which, kV_law_which, dc_law_which, pm_law_which, an_law_which, cd_law_which, ct_law_which, sl_law_which, l_law_which, y_law_which⟩ := Z.fn_at (c.fn 12) (Z.all_get z1 0)
  obtain ⟨c_law_which, y_law_which⟩ := He.ba y_law_which
  obtain ⟨y_law_which, ky_law_which⟩ := He.ba y_law_which
  obtain rfl := Z.none_ok y_law_which
  obtain ⟨oc_law_told, od_law_told, dV_law_told, kV_law_told, dc_law_told, pm_law_told, an_law_told, cd_law_told, ct_law_told, sl_law_told, l_law_told, y_law_told⟩ := Z.fn_at (c.fn 13) (Z.all_get z1 1)
  obtain ⟨c_law_told, y_law_told⟩ := He.ba y_law_told
  obtain ⟨y_law_told, ky_law_told⟩ := He.ba y_law_told
  obtain rfl := Z.none_ok y_law_told
  obtain ⟨oc_NoCode_init, od_NoCode_init, dV_NoCode_init, kV_NoCode_init, dc_NoCode_init, pm_NoCode_init, an_NoCode_init, cd_NoCode_init, ct_NoCode_init, sl_NoCode_init, l_NoCode_init, y_NoCode_init⟩ := Z.fn_at (c.fn 14) (Z.all_get z1 2)
  obtain ⟨c_NoCode_init, y_NoCode_init⟩ := He.ba y_NoCode_init
  obtain ⟨y_NoCode_init, ky_NoCode_init⟩ := He.ba y_NoCode_init
  obtain rfl := Z.none_ok y_NoCode_init
  obtain ⟨oc_read_plain, od_read_plain, dV_read_plain, kV_read_plain, dc_read_plain, pm_read_plain, an_read_plain, cd_read_plain, ct_read_plain, sl_read_plain, l_read_plain, y_read_plain⟩ := Z.fn_at (c.fn 15) (Z.all_get z1 3)
  obtain ⟨c_read_plain, y_read_plain⟩ := He.ba y_read_plain
  obtain ⟨y_read_plain, ky_read_plain⟩ := He.ba y_read_plain
  obtain rfl := Z.none_ok y_read_plain
  obtain ⟨oc_read_number, od_read_number, dV_read_number, kV_read_number, dc_read_number, pm_read_number, an_read_number, cd_read_number, ct_read_number, sl_read_number, l_read_number, y_read_number⟩ := Z.fn_at (c.fn 16) (Z.all_get z1 4)
  obtain ⟨c_read_number, y_read_number⟩ := He.ba y_read_number
  obtain ⟨y_read_number, ky_read_number⟩ := He.ba y_read_number
  obtain rfl := Z.none_ok y_read_number
  obtain ⟨oc_other_bit, od_other_bit, dV_other_bit, kV_other_bit, dc_other_bit, pm_other_bit, an_other_bit, cd_other_bit, ct_other_bit, sl_other_bit, l_other_bit, y_other_bit⟩ := Z.fn_at (c.fn 17) (Z.all_get z1 5)
  obtain ⟨c_other_bit, y_other_bit⟩ := He.ba y_other_bit
  obtain ⟨y_other_bit, ky_other_bit⟩ := He.ba y_other_bit
  obtain rfl := Z.none_ok y_other_bit
  obtain ⟨oc_read_runs, od_read_runs, dV_read_runs, kV_read_runs, dc_read_runs, pm_read_runs, an_read_runs, cd_read_runs, ct_read_runs, sl_read_runs, l_read_runs, y_read_runs⟩ := Z.fn_at (c.fn 18) (Z.all_get z1 6)
  obtain ⟨c_read_runs, y_read_runs⟩ := He.ba y_read_runs
  obtain ⟨y_read_runs, ky_read_runs⟩ := He.ba y_read_runs
  obtain rfl := Z.none_ok y_read_runs
  obtain ⟨oc_read_code, od_read_code, dV_read_code, kV_read_code, dc_read_code, pm_read_code, an_read_code, cd_read_code, ct_read_code, sl_read_code, l_read_code, y_read_code⟩ := Z.fn_at (c.fn 19) (Z.all_get z1 7)
  obtain ⟨c_read_code, y_read_code⟩ := He.ba y_read_code
  obtain ⟨y_read_code, ky_read_code⟩ := He.ba y_read_code
  obtain rfl := Z.none_ok y_read_code
  obtain ⟨oc_law_looked_right, od_law_looked_right, dV_law_looked_right, kV_law_looked_right, dc_law_looked_right, pm_law_looked_right, an_law_looked_right, cd_law_looked_right, ct_law_looked_right, sl_law_looked_right, l_law_looked_right, y_law_looked_right⟩ := Z.fn_at (c.fn 20) (Z.all_get z1 8)
  obtain ⟨c_law_looked_right, y_law_looked_right⟩ := He.ba y_law_looked_right
  obtain ⟨y_law_looked_right, ky_law_looked_right⟩ := He.ba y_law_looked_right
  obtain rfl := Z.none_ok y_law_looked_right
  obtain ⟨oc_law, od_law, dV_law, kV_law, dc_law, pm_law, an_law, cd_law, ct_law, sl_law, l_law, y_law⟩ := Z.fn_at (c.fn 21) (Z.all_get z1 9)
  obtain ⟨c_law, y_law⟩ := He.ba y_law
  obtain ⟨y_law, ky_law⟩ := He.ba y_law
  obtain rfl := Z.none_ok y_law
  obtain ⟨es_READERS, m_READERS, kd_READERS⟩ := c.tab 0
  have tw_READERS := c.tabW 0
  obtain ⟨_, _, _, _, _, _, _, _, _, _, _, _, _, _, x_NoCode⟩ := Z.exc_at (Z.all_get z4 9)
  exact all_mk X Gm hfa (He.eqO_ok (Z.all_get z1 10))
    (He.eqO_ok (Z.all_get z1 11))
    (He.eqO_ok (Z.all_get z2 0))
    (He.eqO_ok (Z.all_get z2 1))
    (He.eqO_ok (Z.all_get z2 2))
    (He.eqO_ok (Z.all_get z2 3))
    (He.eqO_ok (Z.all_get z2 4))
    (He.eqO_ok (Z.all_get z2 5))
    (He.eqO_ok (Z.all_get z2 6))
    (He.eqO_ok (Z.all_get z2 7))
    (He.eqO_ok (Z.all_get z2 8))
    (He.eqO_ok (Z.all_get z2 9))
    (He.eqO_ok (Z.all_get z2 10))
    (He.eqO_ok (Z.all_get z2 11))
    (He.eqO_ok (Z.all_get z3 0))
    (He.eqO_ok (Z.all_get z3 1))
    (He.eqO_ok (Z.all_get z3 2))
    (He.int_ok X Gm (Z.all_get z3 3))
    (He.str_ok X Gm (Z.all_get z3 4))
    (He.eqO_ok (Z.all_get z3 5))
    (He.eqO_ok (Z.all_get z3 6))
    (He.eqO_ok (Z.all_get z3 7))
    (He.eqO_ok (Z.all_get z3 8))
    (He.eqO_ok (Z.all_get z3 9))
    (He.eqO_ok (Z.all_get z3 10))
    (He.eqO_ok (Z.all_get z3 11))
    (He.eqO_ok (Z.all_get z4 0))
    (He.eqO_ok (Z.all_get z4 1))
    (He.eqO_ok (Z.all_get z4 2))
    (He.eqO_ok (Z.all_get z4 3))
    (He.eqO_ok (Z.all_get z4 4))
    (He.eqO_ok (Z.all_get z4 5))
    (He.eqO_ok (Z.all_get z4 6))
    (He.eqO_ok (Z.all_get z4 7))
    (He.eqO_ok (Z.all_get z4 8))
    x_NoCode
    (He.eqO_ok (Z.all_get z4 10))
    (of_decide_eq_true (Z.all_get z4 11))
    (of_decide_eq_true (Z.all_get z5 0))
    (Z.all_get z5 1)
    (He.eqO_ok (Z.all_get z5 2))
    (Z.all_get z5 3)
    (He.eqO_ok (Z.all_get z5 4))
    (Z.cls_ok (Z.all_get z5 5))
    (He.eqO_ok (Z.all_get z5 6))
    l_law_urn
    c_law_urn
    (Z.all_get z5 7)
    (He.eqO_ok (Z.all_get z5 8))
    l_law_number_code
    c_law_number_code
    (Z.all_get z5 9)
    (He.eqO_ok (Z.all_get z5 10))
    l_law_runs
    c_law_runs
    (Z.all_get z5 11)
    (He.eqO_ok (Z.all_get z6 0))
    l_law_codes
    c_law_codes
    (Z.all_get z6 1)
    (He.eqO_ok (Z.all_get z6 2))
    l_law_draw
    c_law_draw
    (Z.all_get z6 3)
    (He.eqO_ok (Z.all_get z6 4))
    l_law_bits
    c_law_bits
    (Z.all_get z6 5)
    (He.eqO_ok (Z.all_get z6 6))
    l_law_odd
    c_law_odd
    (Z.all_get z6 7)
    (He.eqO_ok (Z.all_get z6 8))
    l_law_block
    c_law_block
    (Z.all_get z6 9)
    (He.eqO_ok (Z.all_get z6 10))
    l_law_spoilt_code
    c_law_spoilt_code
    (Z.all_get z6 11)
    (He.eqO_ok (Z.all_get z7 0))
    l_law_goes_on
    c_law_goes_on
    (Z.all_get z7 1)
    (He.eqO_ok (Z.all_get z7 2))
    l_law_block_of
    c_law_block_of
    (Z.all_get z7 3)
    (He.eqO_ok (Z.all_get z7 4))
    l_law_code_due
    c_law_code_due
    (Z.all_get z7 5)
    (He.eqO_ok (Z.all_get z7 6))
    l_law_which
    c_law_which
    (Z.all_get z7 7)
    (He.eqO_ok (Z.all_get z7 8))
    l_law_told
    c_law_told
    (Z.all_get z7 9)
    (He.eqO_ok (Z.all_get z7 10))
    (of_decide_eq_true (Z.all_get z7 11))
    l_NoCode_init
    c_NoCode_init
    (Z.all_get z8 0)
    (He.eqO_ok (Z.all_get z8 1))
    l_read_plain
    c_read_plain
    (Z.all_get z8 2)
    (He.eqO_ok (Z.all_get z8 3))
    l_read_number
    c_read_number
    (Z.all_get z8 4)
    (He.eqO_ok (Z.all_get z8 5))
    l_other_bit
    c_other_bit
    (Z.all_get z8 6)
    (He.eqO_ok (Z.all_get z8 7))
    l_read_runs
    c_read_runs
    (Z.all_get z8 8)
    (He.eqO_ok (Z.all_get z8 9))
    l_read_code
    c_read_code
    (Z.all_get z8 10)
    (He.eqO_ok (Z.all_get z8 11))
    l_law_looked_right
    c_law_looked_right
    (Z.all_get z9 0)
    (He.eqO_ok (Z.all_get z9 1))
    l_law
    c_law
    (Z.all_get z9 2)
    (He.eqO_ok (Z.all_get z9 3))
    kd_READERS.at_
    kd_READERS.lit
    kd_READERS.low
    (He.eqO_ok (Z.all_get z9 4))
    (He.eqO_ok (Z.all_get z9 5))
    (fun z h1 h2 => Z.tab_miss tw_READERS (miss_pr h1 h2))
    (Z.all_get z9 6)
    (Z.all_get z9 7)
end My
open PySem PySem.W PySem.Calls PyProof.Rows My in
set_option maxRecDepth 100000 in
set_option maxHeartbeats 0 in
theorem PySem.Challenge.cw_countedbits_k04_what_are_no_codes_holds : PySem.Challenge.rw_countedbits_k04_what_are_no_codes.Holds := by
  w_on; o_law
  refine HandSHeadRun.head_any (r := OpenLaw.row PySem.Challenge.rw_countedbits_k04_what_are_no_codes) (q := My.hq) (H := My.hk) (ob := My.ob) (M := 30000) (loose := My.lo) (d := HandSHeadRun.topDef (OpenLaw.row PySem.Challenge.rw_countedbits_k04_what_are_no_codes).prog 42) (kwd := []) My.ob_eq
    (by kernel_rfl) (fun s => by kernel_rfl) My.hd_runs (by kernel_rfl) (by kernel_rfl) (by kernel_rfl) (by rfl) (by first | assumption | decide +kernel) (by decide +kernel) ⟨rfl, rfl, rfl, rfl, rfl, by decide +kernel⟩ ?hw ?hc
  case hw => w_witness2
  case hc =>
    refine Z.walk_hT (l := PySem.Challenge.rw_countedbits_k04_what_are_no_codes) (n := 63) (k := 9) (x := "_law_script") (sp := fun K => sp_law K) ["_law_looked_right"] rfl (by decide) (by kernel_rfl) ⟨rfl, by decide, by decide⟩ (by decide +kernel) ?F (fun K H a ns hl hS => ⟨a, ns, rfl, hS, hl, fun _ => rfl⟩)
    intro w mg fa h Y Gm hmg0
    obtain ⟨K, KX, c⟩ := Y
    have hmg : mg ("law" : PySem.Str) = some (.ref fa) := by
      have e : (HandSHeadRun.topDef (OpenLaw.row PySem.Challenge.rw_countedbits_k04_what_are_no_codes).prog 42).name = ("law" : PySem.Str) := by kernel_rfl
      rw [← e]
      exact hmg0
    exact ⟨K, KX, My.all_says KX Gm hmg c⟩
#print axioms PySem.Challenge.cw_countedbits_k04_what_are_no_codes_holds
