import PyProof.Rows.All
import Wide.All
import OpenK.AllK
import Wide.FinOn
import HandS.ForMost
import HandS.ForExc
import HandS.More
import HandS.Comp
import HandS.HotCalls
import HandS.ExcCtx
import HandS.TryMany
import HandS.TryOnly
import HandS.Wide
import HandS.Flow
import HandS.Defaults
import HandS.MakeKw
import HandS.CallSlots
import HandS.IsInst
import HandS.ExcIs
import HandS.OwnEq
import HandS.HeadHook1
import KE.KStateDown
import HandS.Head0
import HandS.Head1
import HandS.Head2
import HandS.HeadEnd
import HandS.HeadHook2
import HandS.MakeKwOnly
import OpenK.KOps
import HandS.List
import HandS.Style
import KE.KCallOwn
import HandS.Property
import HandS.ClsMeth
import HandS.GenList
import HandS.ExcInit
import HandS.ExcField
import KE.KExcIs
import HandS.HeadHook3
import Wide.Once
import HandS.NoneIn
import HandS.ExcInitHot
import HandS.Star
import HandS.ExcValue
import PySem.Challenge.RW_tracerline_k05_errors
set_option Elab.async false
set_option linter.all false
set_option maxRecDepth 100000
set_option maxHeartbeats 0
set_option exponentiation.threshold 10000000
namespace L2.Tr
open PySem PySem.Spec PyProof.Rows He
abbrev FB := PySem.W.Frag → Bool
abbrev AlX : Type := Bool × List FnW
section
variable {fs : List FB} {fn : List DefD} {K : PySem.W.Frag} {mg : Str → Option Value} {h : Heap}
def fGlo (x : Str) : FB := fun K => (Fa.glo x).ok K
def fFree (x : Str) : FB := fun K => (Fa.free x).ok K
def fKeep (x : Str) : FB := fun K => PySem.W.keepIn K (.ref (ga K x))
def fNoat (x f : Str) : FB := fun K => (Fa.noat x f).ok K
def fMkr (x : Str) : FB := fun K => (Fa.mkr x).ok K
def fExc (x : Str) : FB := fun K => (Fa.exc x).ok K && (Fa.glo x).ok K
def fOcl (x : Str) : FB := fun K => (Fa.cls x).ok K && (PySem.W.selfFirst K (ga K x) && (eqO (PySem.W.findIn K (.ref (ga K x)) "__class__") (some (some (.builtin "object.__class__"))) && (eqO (PySem.W.specialIn K (.builtin "object.__class__") "__get__") (some (some (.builtin "getset_descriptor.__get__"))) &&
  (decide (PySem.W.takesIn K (.builtin "object.__class__") = some true) && (decide (PySem.W.mroIn K (ga K x) (.type "object") = some true) && (decide (PySem.W.subIn K (.ref (ga K x)) (.type "int") = some false) && (decide (PySem.W.subIn K (.type "int") (.ref (ga K x)) = some false) &&
  eqO (PySem.W.findIn K (.ref (ga K x)) "__ne__") (some (some (.builtin "object.__ne__"))))))))))
def fOMet (x m : Str) : FB := fun K => eqO (PySem.W.findIn K (.ref (ga K x)) m) (some (some (.ref (ma K (ga K x) m)))) && PySem.W.isFn K (.ref (ma K (ga K x) m))
def fNf (x : Str) : FB := fun K => PySem.W.notFirst K (ga K x) (.ref (ga K x)) && PySem.W.notFirst K (ga K x) (.type "int")
def fKit (x y : Str) (b : Bool) : FB := fun K => decide (PySem.W.kitOne K (.ref (ga K x)) (.ref (ga K y)) = some b)
def fKitT (x : Str) (t : String) (b : Bool) : FB := fun K => decide (PySem.W.kitOne K (.ref (ga K x)) (.type t) = some b)
end
end L2.Tr
namespace L2.Tr
open PySem PySem.Spec PyProof.Rows
def fExm (x y : Str) (b : Bool) : FB := fun K => (He.Fa.exm x y b).ok K
def fExcC (x : Str) : FB := fun K => He.eqO (PySem.W.findIn K (.ref (He.ga K x)) "__getattribute__") (some (some (.builtin "BaseException.__getattribute__"))) && (He.eqO (PySem.W.findIn K (.ref (He.ga K x)) "__getattr__") (some none) && (decide (PySem.W.subIn K (.ref (He.ga K x)) (.type "BaseException") = some true) && (PySem.W.hasDictIn K (He.ga K x) &&
  (He.eqO (PySem.W.findIn K (.ref (He.ga K x)) "__class__") (some (some (.builtin "object.__class__"))) && (He.eqO (PySem.W.specialIn K (.builtin "object.__class__") "__get__") (some (some (.builtin "getset_descriptor.__get__"))) && (decide (PySem.W.takesIn K (.builtin "object.__class__") = some true) && decide (PySem.W.mroIn K (He.ga K x) (.type "object") = some true)))))))
end L2.Tr
namespace L2.Tr
open PySem PySem.Spec PyProof.Rows He
def nsB (K : PySem.W.Frag) (a : Addr) : Bool := match K.lookup a with
  | some o => (match o.data with
    | .dict es _ => es.all fun e => (match e.key with
      | .str _ _ => true
      | _ => false)
    | _ => false)
  | none => false
def nsG (K : PySem.W.Frag) (a : Addr) (x : Str) : Option Value := match K.lookup a with
  | some o => (match o.data with
    | .dict es _ => nsFind es x
    | _ => none)
  | none => none
def modB (K : PySem.W.Frag) : Option Value → Bool
  | some (.ref bm) => (match K.lookup bm with
    | some ob => (match ob.cls with
      | .type n => decide (n = "module")
      | _ => false) && decide (ob.dict = some builtinsNs)
    | none => false)
  | _ => false
def fSeer (K : PySem.W.Frag) : Bool := (nsB K cStatics && (nsG K cStatics "sys.audit-hooks").isNone && (nsG K cStatics "sys.dict").isNone) && (nsB K sysModules && (nsG K sysModules "_pylong").isNone) && (nsB K mainGlobals && modB K (nsG K mainGlobals "__builtins__"))
end L2.Tr
namespace L2.Tr
open PySem PySem.Spec PyProof.Rows He
def fnX (K : PySem.W.Frag) (a : Addr) : FnW := match K.lookup a with
  | some ⟨_, _, .func fd, _⟩ => some (fd.name, fd.qualname, fd.params, fd.body, fd.scope, fd.globals, fd.closure, fd.builtins)
  | _ => none
structure DX where
  at_ : PySem.W.Frag → Addr
  name : Str
  qual : Str
  params : Arguments
  body : List Stmt
  scope : Scope
  dfl : List Dv
  kwd : List (Str × Dv)
def DX.val (d : DX) : FnW := some (d.name, d.qual, d.params, .stmts d.body, d.scope, mainGlobals, [], builtinsNs)
def DX.ok (d : DX) (K : PySem.W.Frag) : Bool := PySem.W.keepIn K (.ref (d.at_ K)) && (match K.lookup (d.at_ K) with
  | some ⟨_, _, .func fd, _⟩ => PySem.W.codeIn K fd.code d.qual && (dflB K fd.defaults (d.dfl.map (Dv.v K)) && kwdB K fd.kwdefaults (d.kwd.map fun q => (q.1, q.2.v K)))
  | _ => false)
def obsY (fs : List FB) (fn : List DX) (K : PySem.W.Frag) : AlX := ((fs.all fun f => f K) && fn.all fun d => d.ok K, fn.map fun d => fnX K (d.at_ K))
def valY (fn : List DX) : AlX := (true, fn.map DX.val)
end L2.Tr
namespace L2.Tr
open PySem PySem.Spec PyProof.Rows He
def isOex (K : PySem.W.Frag) (C : Addr) : Bool := match List.lookup C K with
  | some ⟨.type "type", _, .cls cd, sl⟩ => (match cd.mro, sl.toList with
    | .ref C' :: bm, [_, _, _, _, some (.builtin n), _] => C' == C && (n == "ValueError.__new__" && (cd.hasDict && (!cd.hasDel && HandSPX.refsVE bm)))
    | _, _ => false)
  | _ => false
def fExcV (x : Str) (fs : List Str) : FB := fun K => isOex K (ga K x) && (eqO (PySem.W.findIn K (.ref (ga K x)) "__setattr__") (some (some (.builtin "object.__setattr__"))) && (decide (PySem.W.subIn K (.ref (ga K x)) (.type "BaseException") = some true) && (decide (PySem.W.typeIn K (.ref (ga K x)) = some (.type "type")) && (PySem.W.keepIn K (.ref (ga K x)) &&
  (eqO (PySem.W.findIn K (.ref (ga K x)) "__init__") (some (some (.ref (ma K (ga K x) "__init__")))) && (decide (PySem.W.typeIn K (.ref (ma K (ga K x) "__init__")) = some (.type "function")) && (fs.all (fun f => eqO (PySem.W.findIn K (.ref (ga K x)) f) (some none)) && ((Fa.glo x).ok K &&
  (eqO (PySem.W.findIn K (.ref (ga K x)) "__getattribute__") (some (some (.builtin "BaseException.__getattribute__"))) && (eqO (PySem.W.findIn K (.ref (ga K x)) "__getattr__") (some none) && PySem.W.hasDictIn K (ga K x)))))))))))
end L2.Tr
namespace L2.Tr
open PySem PySem.Spec PyProof.Rows He
abbrev AlZ : Type := AlX × List (Option (List (Option (Str × Int))))
def obsZ (fs : List FB) (fn : List DX) (ts : List Tab) (K : PySem.W.Frag) : AlZ := (obsY fs fn K, ts.map fun t => dicW K (t.1 K))
def valZ (fn : List DX) (ts : List Tab) (w : World) : AlZ := (valY fn, ts.map fun t => some (keysIn w.params t.2))
def SaysZ (fs : List FB) (fn : List DX) (ts : List Tab) (w : World) (K : PySem.W.Frag) : Prop := obsZ fs fn ts K = valZ fn ts w
end L2.Tr
namespace L2.Tr
open PySem PySem.Spec PyProof.Rows He
def hookA (as : List Addr) (fs : List FB) (fn : List DX) (ts : List Tab) : PySem.W.Hook where
  α := AlZ
  obs := fun s => obsZ fs fn ts (frG s.heap.get? as)
  val := fun w => valZ fn ts w
  says := fun w h => ∃ K : PySem.W.Frag, K.In h ∧ SaysZ fs fn ts w K
  of := fun _ _ e => ⟨_, frG_in, e⟩
  keeps := fun _ _ _ ⟨K, hK, c⟩ k => ⟨K, PySem.W.Frag.In.keeps hK k, c⟩
theorem obsA_eq {as : List Addr} {fs : List FB} {fn : List DX} {ts : List Tab} {g : Addr → Option Obj} {s : Shared} (h : ∀ a, g a = s.heap.get? a) : obsZ fs fn ts (frG g as) = (hookA as fs fn ts).obs s := by
  have e : g = s.heap.get? := funext h
  rw [e] <;> rfl
end L2.Tr
set_option maxHeartbeats 2000000
namespace L2.Tr
open PySem PySem.Spec PyProof.Rows L2H
def fExcs (ns : List Str) : FB := fun K => ns.all fun x => fExcC x K
def fKits (ns : List Str) (y : Str) (t : Str → Bool) : FB := fun K => ns.all fun x => fKit x y (t x) K
def fKitsT (ns : List Str) (y : String) (t : Str → Bool) : FB := fun K => ns.all fun x => fKitT x y (t x) K
end L2.Tr
namespace L2.Tr
open PySem PySem.Spec PyProof.Rows
def errNS : List Str := ["BadFraction", "BadPolynomial", "BadReadings", "NothingLeft", "BadShare", "BadTick", "BadRoom", "BadWeb", "BadLine", "BadForm", "BadText", "BadName", "TakenName", "UnknownName", "FullReader", "Barred", "OutOfRange", "Misfit", "NoWeb"]
def top (i : Nat) : Stmt := PySem.Challenge.pw_tracerline_k05_errors.main.body.getD i (.Pass ⟨0, 0, 0, 0⟩)
abbrev s_law_cell : Stmt := top 26
abbrev s_law_classes : Stmt := top 27
abbrev s_law_plain : Stmt := top 28
abbrev s_common_divisor : Stmt := top 23
abbrev s_Fraction_init : Stmt := inClass (top 24) 0
abbrev s_law_without : Stmt := top 29
abbrev s_BadTick_init : Stmt := inClass (top 8) 0
abbrev s_Barred_init : Stmt := inClass (top 18) 0
abbrev s_law_raised : Stmt := top 33
abbrev s_BadShare_init : Stmt := inClass (top 7) 0
abbrev s_BadRoom_init : Stmt := inClass (top 9) 0
abbrev s_BadLine_init : Stmt := inClass (top 11) 0
abbrev s_BadText_init : Stmt := inClass (top 13) 0
abbrev s_FullReader_init : Stmt := inClass (top 17) 0
abbrev s_Misfit_init : Stmt := inClass (top 20) 0
abbrev s_NoWeb_init : Stmt := inClass (top 21) 0
abbrev s_law_numbers : Stmt := top 30
abbrev s_BadWeb_init : Stmt := inClass (top 10) 0
abbrev s_BadForm_init : Stmt := inClass (top 12) 0
abbrev s_BadName_init : Stmt := inClass (top 14) 0
abbrev s_TakenName_init : Stmt := inClass (top 15) 0
abbrev s_UnknownName_init : Stmt := inClass (top 16) 0
abbrev s_law_strings : Stmt := top 31
abbrev s_OutOfRange_init : Stmt := inClass (top 19) 0
abbrev s_Fraction_eq : Stmt := inClass (top 24) 10
abbrev s_law_pairs : Stmt := top 32
abbrev s_law : Stmt := top 34
section
open He
def fs : List FB := [fGlo "_law_cell", fKeep "_law_cell", fFree "int", fGlo "_law_without", fKeep "_law_without", fGlo "_law_raised", fKeep "_law_raised", fGlo "_law_numbers", fKeep "_law_numbers", fGlo "_law_strings", fKeep "_law_strings", fGlo "Fraction", fMkr "Fraction", fGlo "_law_pairs", fKeep "_law_pairs", fFree "len", fExc "BadFraction", fGlo "_law_plain", fKeep "_law_plain", fExc "BadPolynomial", fExc "BadReadings", fExc "NothingLeft", fGlo "BadFraction", fKit "BadFraction" "BadFraction" true, fExcC "BadFraction", fFree "isinstance", fExcs errNS, fGlo "TracerError", fKits errNS "TracerError" (fun (_ : Str) => true), fFree "ValueError", fKitsT errNS "ValueError" (fun (_ : Str) => true), fGlo "_law_classes", fKeep "_law_classes", fKits errNS "BadFraction" (fun (x : Str) => decide (x = ("BadFraction" : Str))), fGlo "BadPolynomial", fKits errNS "BadPolynomial" (fun (x : Str) => decide (x = ("BadPolynomial" : Str))), fGlo "BadReadings", fKits errNS "BadReadings" (fun (x : Str) => decide (x = ("BadReadings" : Str))), fGlo "NothingLeft", fKits errNS "NothingLeft" (fun (x : Str) => decide (x = ("NothingLeft" : Str))), fGlo "BadShare", fKits errNS "BadShare" (fun (x : Str) => decide (x = ("BadShare" : Str))), fGlo "BadTick", fKits errNS "BadTick" (fun (x : Str) => decide (x = ("BadTick" : Str))), fGlo "BadRoom", fKits errNS "BadRoom" (fun (x : Str) => decide (x = ("BadRoom" : Str))), fGlo "BadWeb", fKits errNS "BadWeb" (fun (x : Str) => decide (x = ("BadWeb" : Str))), fGlo "BadLine", fKits errNS "BadLine" (fun (x : Str) => decide (x = ("BadLine" : Str))), fGlo "BadForm", fKits errNS "BadForm" (fun (x : Str) => decide (x = ("BadForm" : Str))), fGlo "BadText", fKits errNS "BadText" (fun (x : Str) => decide (x = ("BadText" : Str))), fGlo "BadName", fKits errNS "BadName" (fun (x : Str) => decide (x = ("BadName" : Str))), fGlo "TakenName", fKits errNS "TakenName" (fun (x : Str) => decide (x = ("TakenName" : Str))), fGlo "UnknownName", fKits errNS "UnknownName" (fun (x : Str) => decide (x = ("UnknownName" : Str))), fGlo "FullReader", fKits errNS "FullReader" (fun (x : Str) => decide (x = ("FullReader" : Str))), fGlo "Barred", fKits errNS "Barred" (fun (x : Str) => decide (x = ("Barred" : Str))), fGlo "OutOfRange", fKits errNS "OutOfRange" (fun (x : Str) => decide (x = ("OutOfRange" : Str))), fGlo "Misfit", fKits errNS "Misfit" (fun (x : Str) => decide (x = ("Misfit" : Str))), fGlo "NoWeb", fKits errNS "NoWeb" (fun (x : Str) => decide (x = ("NoWeb" : Str))), fExm "BadFraction" "TracerError" true, fFree "abs", fKit "BadTick" "BadTick" true, fExcC "BadTick", fExm "BadTick" "TracerError" true, fExcV "Barred" ["tick", "weights"], fExm "Barred" "Barred" true, fExcV "BadTick" ["tick"], fExcV "BadShare" ["share"], fExcV "BadRoom" ["room"], fExcV "BadLine" ["place"], fExcV "BadText" ["line", "column"], fExcV "FullReader" ["most"], fExcV "Misfit" ["tick"], fExcV "NoWeb" ["tick"], fExcV "BadWeb" ["reason"], fExcV "BadForm" ["form"], fExcV "BadName" ["name"], fExcV "TakenName" ["name"], fExcV "UnknownName" ["name"], fOcl "Fraction", fOMet "Fraction" "__eq__", fNf "Fraction", fExcV "OutOfRange" ["least", "greatest"], fNoat "Fraction" "bottom", fNoat "Fraction" "top", fKitT "Fraction" "int" false, fKit "Fraction" "Fraction" true, fGlo "law", fSeer, fGlo "common_divisor", fKeep "common_divisor"]
def fnl : List DX := [⟨fun K => (He.ga K "_law_cell"), "_law_cell", "_law_cell", defArgs s_law_cell, defBody s_law_cell, defScope s_law_cell, [], []⟩,
  ⟨fun K => (He.ga K "_law_classes"), "_law_classes", "_law_classes", defArgs s_law_classes, defBody s_law_classes, defScope s_law_classes, [], []⟩,
  ⟨fun K => (He.ga K "_law_plain"), "_law_plain", "_law_plain", defArgs s_law_plain, defBody s_law_plain, defScope s_law_plain, [], []⟩,
  ⟨fun K => (He.ga K "common_divisor"), "common_divisor", "common_divisor", defArgs s_common_divisor, defBody s_common_divisor, defScope s_common_divisor, [], []⟩,
  ⟨fun K => (He.ga K "_law_without"), "_law_without", "_law_without", defArgs s_law_without, defBody s_law_without, defScope s_law_without, [], []⟩,
  ⟨fun K => (He.ma K (He.ga K "BadTick") "__init__"), "__init__", "BadTick.__init__", defArgs s_BadTick_init, defBody s_BadTick_init, defScope s_BadTick_init, [], []⟩,
  ⟨fun K => (He.ma K (He.ga K "Barred") "__init__"), "__init__", "Barred.__init__", defArgs s_Barred_init, defBody s_Barred_init, defScope s_Barred_init, [], []⟩,
  ⟨fun K => (He.ga K "_law_raised"), "_law_raised", "_law_raised", defArgs s_law_raised, defBody s_law_raised, defScope s_law_raised, [], []⟩,
  ⟨fun K => (He.ma K (He.ga K "BadShare") "__init__"), "__init__", "BadShare.__init__", defArgs s_BadShare_init, defBody s_BadShare_init, defScope s_BadShare_init, [], []⟩,
  ⟨fun K => (He.ma K (He.ga K "BadRoom") "__init__"), "__init__", "BadRoom.__init__", defArgs s_BadRoom_init, defBody s_BadRoom_init, defScope s_BadRoom_init, [], []⟩,
  ⟨fun K => (He.ma K (He.ga K "BadLine") "__init__"), "__init__", "BadLine.__init__", defArgs s_BadLine_init, defBody s_BadLine_init, defScope s_BadLine_init, [], []⟩,
  ⟨fun K => (He.ma K (He.ga K "BadText") "__init__"), "__init__", "BadText.__init__", defArgs s_BadText_init, defBody s_BadText_init, defScope s_BadText_init, [], []⟩,
  ⟨fun K => (He.ma K (He.ga K "FullReader") "__init__"), "__init__", "FullReader.__init__", defArgs s_FullReader_init, defBody s_FullReader_init, defScope s_FullReader_init, [], []⟩,
  ⟨fun K => (He.ma K (He.ga K "Misfit") "__init__"), "__init__", "Misfit.__init__", defArgs s_Misfit_init, defBody s_Misfit_init, defScope s_Misfit_init, [], []⟩,
  ⟨fun K => (He.ma K (He.ga K "NoWeb") "__init__"), "__init__", "NoWeb.__init__", defArgs s_NoWeb_init, defBody s_NoWeb_init, defScope s_NoWeb_init, [], []⟩,
  ⟨fun K => (He.ga K "_law_numbers"), "_law_numbers", "_law_numbers", defArgs s_law_numbers, defBody s_law_numbers, defScope s_law_numbers, [], []⟩,
  ⟨fun K => (He.ma K (He.ga K "BadWeb") "__init__"), "__init__", "BadWeb.__init__", defArgs s_BadWeb_init, defBody s_BadWeb_init, defScope s_BadWeb_init, [], []⟩,
  ⟨fun K => (He.ma K (He.ga K "BadForm") "__init__"), "__init__", "BadForm.__init__", defArgs s_BadForm_init, defBody s_BadForm_init, defScope s_BadForm_init, [], []⟩,
  ⟨fun K => (He.ma K (He.ga K "BadName") "__init__"), "__init__", "BadName.__init__", defArgs s_BadName_init, defBody s_BadName_init, defScope s_BadName_init, [], []⟩,
  ⟨fun K => (He.ma K (He.ga K "TakenName") "__init__"), "__init__", "TakenName.__init__", defArgs s_TakenName_init, defBody s_TakenName_init, defScope s_TakenName_init, [], []⟩,
  ⟨fun K => (He.ma K (He.ga K "UnknownName") "__init__"), "__init__", "UnknownName.__init__", defArgs s_UnknownName_init, defBody s_UnknownName_init, defScope s_UnknownName_init, [], []⟩,
  ⟨fun K => (He.ga K "_law_strings"), "_law_strings", "_law_strings", defArgs s_law_strings, defBody s_law_strings, defScope s_law_strings, [], []⟩,
  ⟨fun K => (He.ma K (He.ga K "OutOfRange") "__init__"), "__init__", "OutOfRange.__init__", defArgs s_OutOfRange_init, defBody s_OutOfRange_init, defScope s_OutOfRange_init, [], []⟩,
  ⟨fun K => (He.ma K (He.ga K "Fraction") "__eq__"), "__eq__", "Fraction.__eq__", defArgs s_Fraction_eq, defBody s_Fraction_eq, defScope s_Fraction_eq, [], []⟩,
  ⟨fun K => (He.ga K "_law_pairs"), "_law_pairs", "_law_pairs", defArgs s_law_pairs, defBody s_law_pairs, defScope s_law_pairs, [], []⟩,
  ⟨fun K => (He.ga K "law"), "law", "law", defArgs s_law, defBody s_law, defScope s_law, [], []⟩,
  ⟨fun K => (He.ma K (He.ga K "Fraction") "__init__"), "__init__", "Fraction.__init__", defArgs s_Fraction_init, defBody s_Fraction_init, defScope s_Fraction_init, [.int 1], []⟩]
def tbs : List He.Tab := []
abbrev RR : PySem.W.OpenRow := PySem.W.OpenLaw.row PySem.Challenge.rw_tracerline_k05_errors
abbrev hk : PySem.W.Hook := hookA [2, 1, 3, 4, 31, 44, 56, 68, 80, 99, 118, 137, 156, 175, 194, 213, 232, 251, 270, 289, 308, 327, 346, 365, 374, 504, 515, 522, 529, 536, 543, 550, 557, 564, 571, 30, 43, 55, 67, 79, 98, 117, 136, 155, 174, 193, 212, 231, 250, 269, 288, 307, 326, 345, 364, 373, 503, 514, 521, 528, 535, 542, 549, 556, 563, 570, 96, 115, 134, 153, 172, 191, 210, 229, 248, 267, 286, 305, 324, 343, 362, 389, 459, 95, 114, 133, 152, 171, 190, 209, 228, 247, 266, 285, 304, 323, 342, 361, 388, 382, 458] fs fnl tbs
def ob (s : PySem.W.SharedT) : AlZ := obsZ fs fnl tbs (frG (HandSHeadRun.getT s) [2, 1, 3, 4, 31, 44, 56, 68, 80, 99, 118, 137, 156, 175, 194, 213, 232, 251, 270, 289, 308, 327, 346, 365, 374, 504, 515, 522, 529, 536, 543, 550, 557, 564, 571, 30, 43, 55, 67, 79, 98, 117, 136, 155, 174, 193, 212, 231, 250, 269, 288, 307, 326, 345, 364, 373, 503, 514, 521, 528, 535, 542, 549, 556, 563, 570, 96, 115, 134, 153, 172, 191, 210, 229, 248, 267, 286, 305, 324, 343, 362, 389, 459, 95, 114, 133, 152, 171, 190, 209, 228, 247, 266, 285, 304, 323, 342, 361, 388, 382, 458])
theorem ob_eq (s : PySem.W.SharedT) : ob s = hk.obs s.abs := obsA_eq (HandSHeadRun.getT_eq s)
def names : List PySem.Str := ((["_wall", "__name__", "TracerError", "BadFraction", "BadPolynomial", "BadReadings", "NothingLeft", "BadShare", "BadTick", "BadRoom", "BadWeb", "BadLine", "BadForm", "BadText", "BadName", "TakenName", "UnknownName", "FullReader", "Barred", "OutOfRange", "Misfit", "NoWeb", "common_divisor", "Fraction", "_law_cell", "_law_classes", "_law_plain", "_law_without", "_law_numbers", "_law_strings"] : List PySem.Str) ++ (["_law_pairs", "_law_raised"] : List PySem.Str))
set_option maxHeartbeats 0 in
theorem run (w : World) : HandSHeadRun.RunEq RR (PySem.W.view RR.prog [34]) hk ob 20000 names w := by
  intro os
  kernel_rfl
end
end L2.Tr
set_option Elab.async false
set_option linter.all false
set_option maxRecDepth 100000
set_option maxHeartbeats 0
set_option exponentiation.threshold 10000000
namespace L2
open PySem PySem.Spec PyProof.Rows HotX L2H
section
variable {prog : Program} {w : World} {A : Around} {E : Value → Shared → Prop} {s : Shared}
end
def PIEC (X : Cx) (pins : List (Addr × Obj)) (σ : St) (tg : Expr) (R : It → Hp → Prop) (itv : Value) (s2 : Shared) : Prop :=
  ∃ (it : Addr) (fp : List Addr) (tn : Nat → Heap → Prop) (J : It) (H' : Hp), itv = .ref it ∧ Inv X pins σ H' s2 ∧ (Turn X.prog X.w X.K tg J fp it tn ∧ (X.calm = false → TurnH X.prog X.w X.K tg J fp it tn)) ∧ tn 0 s2.heap ∧ (∀ b ∈ fp, FpOk X pins H' b) ∧ R J H'
structure PIC (X : Cx) (tg iter : Expr) (wi : TI) : Prop where
  run : ∀ (pins : List (Addr × Obj)) (s : Shared) (σ : St) (H : Hp) (R : It → Hp → Prop), Inv X pins σ H s → wi σ H R →
    wpAny (model X.prog X.w) X.A (eval iter X.env) (fun v s1 => wpAny (model X.prog X.w) X.A (pyIter v) (PIEC X pins σ tg R) X.xe s1) X.xe s
section
variable {X : Cx} {tg iter : Expr} {wi : TI}
end
def unE (i : Nat) (D : Ends) : Ends := ⟨fun σ H => D.nx (σ.set i none) H, D.rt, fun σ H => D.bk (σ.set i none) H, fun σ H => D.ct (σ.set i none) H⟩
def tsAs (i : Nat) (ts : Addr → Value → Option Addr → TS) : Addr → Value → Option Addr → TS := fun a cls d D σ H => ts a cls d (unE i D) (σ.set i (some (.ref a))) H
inductive HdsN (X : Cx) : List ExceptHandler → List (Value × (Addr → Value → Option Addr → TS)) → Prop
  | nil : HdsN X [] []
  | only {x : Str} {c : Value} {ts : Addr → Value → Option Addr → TS} {b₀ : Stmt} {suite : List Stmt} {np pos' : Pos} {hds : List ExceptHandler} {l : List (Value × (Addr → Value → Option Addr → TS))} (hc : Names X x c)
      (hsu : ∀ (a : Addr) (oe : Obj) (cls : Value) (d : Option Addr) (pn : List (Addr × Obj)), L2N.Zn cls d oe → (∃ vs, oe.data = .fields vs) → PSs (X.suite a ((a, oe) :: pn)) (b₀ :: suite) (ts a cls d)) (r : HdsN X hds l) :
      HdsN X (.ExceptHandler (some (.Name x np)) none (b₀ :: suite) pos' :: hds) ((c, ts) :: l)
  | as_ {x n : Str} {i : Nat} {c : Value} {ts : Addr → Value → Option Addr → TS} {b₀ : Stmt} {suite : List Stmt} {np pos' : Pos} {hds : List ExceptHandler} {l : List (Value × (Addr → Value → Option Addr → TS))} (hN : X.N.Nodup) (hi : X.N[i]? = some n) (hln : X.env.kindOf n = some .local) (hc : Names X x c)
      (hsu : ∀ (a : Addr) (oe : Obj) (cls : Value) (d : Option Addr) (pn : List (Addr × Obj)), L2N.Zn cls d oe → (∃ vs, oe.data = .fields vs) → PSs (X.suite a ((a, oe) :: pn)) (b₀ :: suite) (ts a cls d)) (r : HdsN X hds l) :
      HdsN X (.ExceptHandler (some (.Name x np)) (some n) (b₀ :: suite) pos' :: hds) ((c, tsAs i ts) :: l)
section
variable {X : Cx} {body : List Stmt} {h₀ : ExceptHandler} {hds : List ExceptHandler} {l : List (Value × (Addr → Value → Option Addr → TS))} {pos : Pos} {tb : WX → TS} {Wout : WX}
end
end L2

namespace L2.Tr
open PySem PySem.Spec PyProof.Rows

@[irreducible] def wE (X : Cx) (e : Expr) : TE := fun σ H Q => ∀ (pins : List (Addr × Obj)) (s : Shared), Inv X pins σ H s → wpAny (model X.prog X.w) X.A (eval e X.env) (EP X pins σ Q) X.xe s
theorem wE.mk {X : Cx} {e : Expr} {σ : St} {H : Hp} {Q : VK} (h : ∀ (pins : List (Addr × Obj)) (s : Shared), Inv X pins σ H s → wpAny (model X.prog X.w) X.A (eval e X.env) (EP X pins σ Q) X.xe s) : wE X e σ H Q := by unfold wE; exact h
theorem wE.out {X : Cx} {e : Expr} {σ : St} {H : Hp} {Q : VK} (h : wE X e σ H Q) : ∀ (pins : List (Addr × Obj)) (s : Shared), Inv X pins σ H s → wpAny (model X.prog X.w) X.A (eval e X.env) (EP X pins σ Q) X.xe s := by unfold wE at h; exact h
@[irreducible] def wT (X : Cx) (e : Expr) : TT := fun σ H Q => ∀ (pins : List (Addr × Obj)) (s : Shared), Inv X pins σ H s → wpAny (model X.prog X.w) X.A (isTrue e X.env (eval e X.env)) (TP X pins σ Q) X.xe s
theorem wT.mk {X : Cx} {e : Expr} {σ : St} {H : Hp} {Q : Bool → Hp → Prop} (h : ∀ (pins : List (Addr × Obj)) (s : Shared), Inv X pins σ H s → wpAny (model X.prog X.w) X.A (isTrue e X.env (eval e X.env)) (TP X pins σ Q) X.xe s) : wT X e σ H Q := by unfold wT; exact h
theorem wT.out {X : Cx} {e : Expr} {σ : St} {H : Hp} {Q : Bool → Hp → Prop} (h : wT X e σ H Q) : ∀ (pins : List (Addr × Obj)) (s : Shared), Inv X pins σ H s → wpAny (model X.prog X.w) X.A (isTrue e X.env (eval e X.env)) (TP X pins σ Q) X.xe s := by unfold wT at h; exact h
@[irreducible] def wW (X : Cx) (e : Expr) : TT := fun σ H Q => ∀ (whole : Sem Value) (pins : List (Addr × Obj)) (s : Shared), Inv X pins σ H s → wpAny (model X.prog X.w) X.A (isTrue e X.env whole) (TP X pins σ Q) X.xe s
theorem wW.mk {X : Cx} {e : Expr} {σ : St} {H : Hp} {Q : Bool → Hp → Prop} (h : ∀ (whole : Sem Value) (pins : List (Addr × Obj)) (s : Shared), Inv X pins σ H s → wpAny (model X.prog X.w) X.A (isTrue e X.env whole) (TP X pins σ Q) X.xe s) : wW X e σ H Q := by unfold wW; exact h
theorem wW.out {X : Cx} {e : Expr} {σ : St} {H : Hp} {Q : Bool → Hp → Prop} (h : wW X e σ H Q) : ∀ (whole : Sem Value) (pins : List (Addr × Obj)) (s : Shared), Inv X pins σ H s → wpAny (model X.prog X.w) X.A (isTrue e X.env whole) (TP X pins σ Q) X.xe s := by unfold wW at h; exact h
@[irreducible] def wA (X : Cx) (es : List Expr) : TA := fun σ H Q => ∀ (pos : Pos) (pins : List (Addr × Obj)) (s : Shared), Inv X pins σ H s → wpAny (model X.prog X.w) X.A (spliced (backTo pos (starEach es X.env))) (AP X pins σ Q) X.xe s
theorem wA.mk {X : Cx} {es : List Expr} {σ : St} {H : Hp} {Q : List V → Hp → Prop} (h : ∀ (pos : Pos) (pins : List (Addr × Obj)) (s : Shared), Inv X pins σ H s → wpAny (model X.prog X.w) X.A (spliced (backTo pos (starEach es X.env))) (AP X pins σ Q) X.xe s) : wA X es σ H Q := by unfold wA; exact h
theorem wA.out {X : Cx} {es : List Expr} {σ : St} {H : Hp} {Q : List V → Hp → Prop} (h : wA X es σ H Q) : ∀ (pos : Pos) (pins : List (Addr × Obj)) (s : Shared), Inv X pins σ H s → wpAny (model X.prog X.w) X.A (spliced (backTo pos (starEach es X.env))) (AP X pins σ Q) X.xe s := by unfold wA at h; exact h
@[irreducible] def wS (X : Cx) (st : Stmt) : TS := fun D σ H => ∀ (pins : List (Addr × Obj)) (s : Shared), Inv X pins σ H s → wpAny (model X.prog X.w) X.A (exec st X.env) (SP X pins D) X.xe s
theorem wS.mk {X : Cx} {st : Stmt} {D : Ends} {σ : St} {H : Hp} (h : ∀ (pins : List (Addr × Obj)) (s : Shared), Inv X pins σ H s → wpAny (model X.prog X.w) X.A (exec st X.env) (SP X pins D) X.xe s) : wS X st D σ H := by unfold wS; exact h
theorem wS.out {X : Cx} {st : Stmt} {D : Ends} {σ : St} {H : Hp} (h : wS X st D σ H) : ∀ (pins : List (Addr × Obj)) (s : Shared), Inv X pins σ H s → wpAny (model X.prog X.w) X.A (exec st X.env) (SP X pins D) X.xe s := by unfold wS at h; exact h
@[irreducible] def wB (X : Cx) (st : List Stmt) : TS := fun D σ H => ∀ (pins : List (Addr × Obj)) (s : Shared), Inv X pins σ H s → wpAny (model X.prog X.w) X.A (execs st X.env) (SP X pins D) X.xe s
theorem wB.mk {X : Cx} {st : List Stmt} {D : Ends} {σ : St} {H : Hp} (h : ∀ (pins : List (Addr × Obj)) (s : Shared), Inv X pins σ H s → wpAny (model X.prog X.w) X.A (execs st X.env) (SP X pins D) X.xe s) : wB X st D σ H := by unfold wB; exact h
theorem wB.out {X : Cx} {st : List Stmt} {D : Ends} {σ : St} {H : Hp} (h : wB X st D σ H) : ∀ (pins : List (Addr × Obj)) (s : Shared), Inv X pins σ H s → wpAny (model X.prog X.w) X.A (execs st X.env) (SP X pins D) X.xe s := by unfold wB at h; exact h
def opW (X : Cx) (f : Value → Value → Sem Value) (σ : St) (x y : V) (H : Hp) (Q : VK) : Prop := ∀ (pins : List (Addr × Obj)) (s : Shared) (v u : Value), Inv X pins σ H s → RelV x v → RelV y u → wpAny (model X.prog X.w) X.A (f v u) (EP X pins σ Q) X.xe s
def unW (X : Cx) (f : Value → Sem Value) (σ : St) (x : V) (H : Hp) (Q : VK) : Prop := ∀ (pins : List (Addr × Obj)) (s : Shared) (v : Value), Inv X pins σ H s → RelV x v → wpAny (model X.prog X.w) X.A (f v) (EP X pins σ Q) X.xe s
def callW (X : Cx) (f : Value) (σ : St) (xs : List V) (H : Hp) (Q : VK) : Prop := ∀ (pins : List (Addr × Obj)) (s : Shared) (us : List Value), Inv X pins σ H s → Vals xs us → wpAny (model X.prog X.w) X.A (call f us) (EP X pins σ Q) X.xe s
def truW (X : Cx) (σ : St) (x : V) (H : Hp) (Q : Bool → Hp → Prop) : Prop := ∀ (pins : List (Addr × Obj)) (s : Shared) (v : Value), Inv X pins σ H s → RelV x v → wpAny (model X.prog X.w) X.A (truthy v) (TP X pins σ Q) X.xe s

instance {X : Cx} {e : Expr} {σ : St} {H : Hp} {Q : VK} : CoeFun (wE X e σ H Q) (fun _ => ∀ (pins : List (Addr × Obj)) (s : Shared), Inv X pins σ H s → wpAny (model X.prog X.w) X.A (eval e X.env) (EP X pins σ Q) X.xe s) := ⟨wE.out⟩
instance {X : Cx} {e : Expr} {σ : St} {H : Hp} {Q : Bool → Hp → Prop} : CoeFun (wT X e σ H Q) (fun _ => ∀ (pins : List (Addr × Obj)) (s : Shared), Inv X pins σ H s → wpAny (model X.prog X.w) X.A (isTrue e X.env (eval e X.env)) (TP X pins σ Q) X.xe s) := ⟨wT.out⟩
instance {X : Cx} {e : Expr} {σ : St} {H : Hp} {Q : Bool → Hp → Prop} : CoeFun (wW X e σ H Q) (fun _ => ∀ (whole : Sem Value) (pins : List (Addr × Obj)) (s : Shared), Inv X pins σ H s → wpAny (model X.prog X.w) X.A (isTrue e X.env whole) (TP X pins σ Q) X.xe s) := ⟨wW.out⟩
instance {X : Cx} {es : List Expr} {σ : St} {H : Hp} {Q : List V → Hp → Prop} : CoeFun (wA X es σ H Q) (fun _ => ∀ (pos : Pos) (pins : List (Addr × Obj)) (s : Shared), Inv X pins σ H s → wpAny (model X.prog X.w) X.A (spliced (backTo pos (starEach es X.env))) (AP X pins σ Q) X.xe s) := ⟨wA.out⟩
instance {X : Cx} {st : Stmt} {D : Ends} {σ : St} {H : Hp} : CoeFun (wS X st D σ H) (fun _ => ∀ (pins : List (Addr × Obj)) (s : Shared), Inv X pins σ H s → wpAny (model X.prog X.w) X.A (exec st X.env) (SP X pins D) X.xe s) := ⟨wS.out⟩
instance {X : Cx} {st : List Stmt} {D : Ends} {σ : St} {H : Hp} : CoeFun (wB X st D σ H) (fun _ => ∀ (pins : List (Addr × Obj)) (s : Shared), Inv X pins σ H s → wpAny (model X.prog X.w) X.A (execs st X.env) (SP X pins D) X.xe s) := ⟨wB.out⟩

section
variable {X : Cx} {e a b c o : Expr} {es : List Expr} {st : Stmt} {ss : List Stmt} {σ : St} {H : Hp} {Q : VK} {D : Ends} {x y v : V} {pos pos' : Pos} {n : Str}
theorem pe_W : PE X e (wE X e) := ⟨fun pins s _ _ _ I h => h.out pins s I⟩
theorem pt_W : PT X e (wT X e) := ⟨fun pins s _ _ _ I h => h.out pins s I⟩
theorem pw_W : PW X e (wW X e) := ⟨fun wh pins s _ _ _ I h => h.out wh pins s I⟩
theorem pa_W : PA X es (wA X es) := ⟨fun pos pins s _ _ _ I h => h.out pos pins s I⟩
theorem ps_W : PS X st (wS X st) := ⟨fun pins s _ _ _ I h => h.out pins s I⟩
theorem pss_W : PSs X ss (wB X ss) := ⟨fun pins s _ _ _ I h => h.out pins s I⟩
theorem PE.w {t : TE} (p : PE X e t) (h : t σ H Q) : wE X e σ H Q := wE.mk fun pins s I => p.run pins s σ H Q I h
theorem PT.w {t : TT} {Q : Bool → Hp → Prop} (p : PT X e t) (h : t σ H Q) : wT X e σ H Q := wT.mk fun pins s I => p.run pins s σ H Q I h
theorem PW.w {t : TT} {Q : Bool → Hp → Prop} (p : PW X e t) (h : t σ H Q) : wW X e σ H Q := wW.mk fun wh pins s I => p.run wh pins s σ H Q I h
theorem PA.w {t : TA} {Q : List V → Hp → Prop} (p : PA X es t) (h : t σ H Q) : wA X es σ H Q := wA.mk fun pos pins s I => p.run pos pins s σ H Q I h
theorem PS.w {t : TS} (p : PS X st t) (h : t D σ H) : wS X st D σ H := wS.mk fun pins s I => p.run pins s σ H D I h
theorem PSs.w {t : TS} (p : PSs X ss t) (h : t D σ H) : wB X ss D σ H := wB.mk fun pins s I => p.run pins s σ H D I h
theorem OpR.w {f : Value → Value → Sem Value} {r : R2} (o : OpR X f r) (h : r x y H Q) : opW X f σ x y H Q := fun pins s v u I rx ry => o pins s σ H x y v u Q I rx ry h
theorem UnR.w {f : Value → Sem Value} {r : V → Hp → VK → Prop} (o : UnR X f r) (h : r x H Q) : unW X f σ x H Q := fun pins s v I rx => o pins s σ H x v Q I rx h
theorem CallR.w {f : Value} {r : List V → Hp → VK → Prop} {xs : List V} (o : CallR X f r) (h : r xs H Q) : callW X f σ xs H Q := fun pins s us I rx => o pins s σ H xs us Q I rx h
theorem TruR.w {r : V → Hp → (Bool → Hp → Prop) → Prop} {Q : Bool → Hp → Prop} (o : TruR X r) (h : r x H Q) : truW X σ x H Q := fun pins s v I rx => o pins s σ H x v Q I rx h

theorem w_var (i : Nat) (h : Q v H) (hs : σ[i]? = some (some v) := by rfl) (hN : X.N[i]? = some n := by rfl) (hv : Vis X.env.scope n := by first | exact Or.inl rfl | exact Or.inr (Or.inl rfl) | exact Or.inr (Or.inr rfl)) (hd : (n == ("__debug__" : Str)) = false := by decide)
    (hcd : (n == ("__classdict__" : Str)) = false := by decide) : wE X (.Name n pos) σ H Q := PE.w (pe_var hN hv hd hcd) ⟨v, hs, h⟩
theorem w_int {i : Int} {j} (h : Q (.int i) H) : wE X (.Constant (.int i) j pos) σ H Q := PE.w pe_int h
theorem w_bl {i : Bool} {j} (h : Q (.bl i) H) : wE X (.Constant (.bool i) j pos) σ H Q := PE.w pe_bl h
theorem w_str {i : Str} {j} (h : Q (.str i) H) : wE X (.Constant (.str i) j pos) σ H Q := PE.w pe_str h
theorem w_bin {op : Operator} (h : wE X a σ H fun x H1 => wE X b σ H1 fun y H2 => opW X (binaryOp op) σ x y H2 Q) : wE X (.BinOp a op b pos) σ H Q := wE.mk fun pins s I =>
  wpAny_BinOp (thn (h.out pins s I) fun v s1 ⟨x, H1, I1, r1, q1⟩ => thn (q1.out pins s1 I1) fun u s2 ⟨y, H2, I2, r2, q2⟩ => q2 pins s2 v u I2 r1 r2)
theorem w_un {op : UnaryOp} (h : wE X a σ H fun x H1 => unW X (unaryOp op) σ x H1 Q) : wE X (.UnaryOp op a pos) σ H Q := wE.mk fun pins s I =>
  UnaryOp_ (thn (h.out pins s I) fun v s1 ⟨x, H1, I1, r1, q1⟩ => q1 pins s1 v I1 r1)
theorem w_cmp {op : CmpOp} (h : wE X a σ H fun x H1 => wE X b σ H1 fun y H2 => opW X (compareOp op) σ x y H2 Q) (hm : behindInMarks op b = false := by first | exact nomark _ | rfl) : wE X (.Compare a [op] [b] pos) σ H Q := wE.mk fun pins s I =>
  wpAny_Compare1 (thn (h.out pins s I) fun v s1 ⟨x, H1, I1, r1, q1⟩ => thn (q1.out pins s1 I1) fun u s2 ⟨y, H2, I2, r2, q2⟩ => q2 pins s2 v u I2 r1 r2) hm
theorem w_tcmp {op : CmpOp} {Q : Bool → Hp → Prop} (h : wE X a σ H fun x H1 => wE X b σ H1 fun y H2 => opW X (compareOp op) σ x y H2 fun z H3 => truW X σ z H3 Q) (hm : behindInMarks op b = false := by first | exact nomark _ | rfl) : wT X (.Compare a [op] [b] pos) σ H Q := wT.mk fun pins s I =>
  wpAny_isTrue_Compare1 (thn (h.out pins s I) fun v s1 ⟨x, H1, I1, r1, q1⟩ => thn (q1.out pins s1 I1) fun u s2 ⟨y, H2, I2, r2, q2⟩ => thn (q2 pins s2 v u I2 r1 r2) fun c s3 ⟨z, H3, I3, r3, q3⟩ => q3 pins s3 c I3 r3) hm
theorem w_t {Q : Bool → Hp → Prop} (h : wE X e σ H fun x H1 => truW X σ x H1 Q) (he : ∀ whole, isTrue e X.env whole = (do let v ← whole; standAt e.pos; holding [v] (truthy v)) := by intro _; rfl) : wT X e σ H Q := wT.mk fun pins s I =>
  isTrue_plain (thn (h.out pins s I) fun v s1 ⟨x, H1, I1, r1, q1⟩ => q1 pins s1 v I1 r1) (he _)
theorem tru_bl {k : Bool} {Q : Bool → Hp → Prop} (h : Q k H) : truW X σ (.bl k) H Q := fun pins s v I r => by
  cases (show v = Value.bool k from r)
  exact wpAny_truthy_bool ⟨H, I, h⟩
theorem w_not {Q : Bool → Hp → Prop} (h : wT X a σ H fun k H1 => Q (!k) H1) : wT X (.UnaryOp .Not a pos) σ H Q := PT.w (pt_not pt_W) h
theorem w_tbool {Q : Bool → Hp → Prop} {op} (h : wW X (.BoolOp op es pos) σ H Q) : wT X (.BoolOp op es pos) σ H Q := wT.mk fun pins s I => h.out _ pins s I
theorem w_or1 {Q : Bool → Hp → Prop} (h : wT X a σ H Q) : wW X (.BoolOp .Or [a] pos) σ H Q := PW.w (pw_or1 pt_W) h
theorem w_or {bs : List Expr} {Q : Bool → Hp → Prop} (h : wT X a σ H fun k H1 => if k = true then Q true H1 else wW X (.BoolOp .Or (b :: bs) pos) σ H1 Q) : wW X (.BoolOp .Or (a :: b :: bs) pos) σ H Q := PW.w (pw_or pt_W pw_W) h
theorem w_oneV {op} (h : wE X a σ H Q) : wE X (.BoolOp op [a] pos) σ H Q := PE.w (pe_one pe_W) h
theorem w_andV {bs : List Expr} (h : wE X a σ H fun x H1 => ∃ k, x = .bl k ∧ if k = true then wE X (.BoolOp .And (b :: bs) pos) σ H1 Q else Q (.bl false) H1) : wE X (.BoolOp .And (a :: b :: bs) pos) σ H Q := PE.w (pe_and pe_W pe_W) h
theorem w_nil {Q : List V → Hp → Prop} (h : Q [] H) : wA X [] σ H Q := PA.w pa_nil h
theorem w_cons {Q : List V → Hp → Prop} (h : wE X e σ H fun x H1 => wA X es σ H1 fun xs H2 => Q (x :: xs) H2) (hs : starEach (e :: es) X.env = (false, eval e X.env) :: starEach es X.env := by rfl) : wA X (e :: es) σ H Q := PA.w (pa_cons pe_W pa_W hs) h
theorem w_lst (h : wA X es σ H fun xs H1 => xs.length ≤ sizeLine ∧ ∀ p, H1 p = none → Q (.ref p) (upd H1 p (.lst xs))) : wE X (.List es pos) σ H Q := PE.w (pe_lst pa_W) h
theorem w_callB {id : String} (h : wA X (e :: es) σ H fun vs H1 => callW X (.builtin id) σ vs H1 Q) (hm : X.mg n = none) (hv : bootBuiltins n = some (.builtin id)) (hg : Gl X n := by rfl) (hn : n ≠ "__name__" := by decide) (hdb : (n == ("__debug__" : Str)) = false := by decide)
    (he : starEach (e :: es) X.env = (false, eval e X.env) :: starEach es X.env := by rfl) (hpl : (backTo pos (starEach es X.env)).any (·.1) = false := by rfl) : wE X (.Call (.Name n pos') (e :: es) [] pos) σ H Q := wE.mk fun pins s I =>
  wpAny_Call_Name_kw (ld_blt I hg hm hv (PyProof.Rows.callWith_builtin1 (thn (h.out pos pins s I) fun us s1 ⟨vs, H1, I1, r1, q1⟩ => q1 pins s1 us I1 r1) he hpl) hn hdb)
theorem w_callTy {T : String} (h : wA X (e :: es) σ H fun vs H1 => callW X (.type T) σ vs H1 Q) (hm : X.mg n = none) (hv : bootBuiltins n = some (.type T)) (hg : Gl X n := by rfl) (hn : n ≠ "__name__" := by decide) (hdb : (n == ("__debug__" : Str)) = false := by decide)
    (he : starEach (e :: es) X.env = (false, eval e X.env) :: starEach es X.env := by rfl) (hpl : (backTo pos (starEach es X.env)).any (·.1) = false := by rfl) : wE X (.Call (.Name n pos') (e :: es) [] pos) σ H Q := wE.mk fun pins s I =>
  wpAny_Call_Name_kw (ld_blt I hg hm hv (PyProof.Rows.callWith_type1 (thn (h.out pos pins s I) fun us s1 ⟨vs, H1, I1, r1, q1⟩ => q1 pins s1 us I1 r1) he hpl) hn hdb)
theorem w_bltn {u : Value} (h : Q v H) (hm : X.mg n = none) (hv : bootBuiltins n = some u) (r : RelV v u) (hg : Gl X n := by rfl) (hn : n ≠ "__name__" := by decide) (hd : (n == ("__debug__" : Str)) = false := by decide) : wE X (.Name n pos) σ H Q := PE.w (pe_bltn hg hm hv r hn hd) h
theorem w_glob {u : Value} (h : Q v H) (hm : X.mg n = some u) (r : RelV v u) (hg : Gl X n := by rfl) (hd : (n == ("__debug__" : Str)) = false := by decide) : wE X (.Name n pos) σ H Q := PE.w (pe_glob hg hm r hd) h

theorem run_W {k : Nat} {f : Addr} {sp : Sp} {W : WX} {vs : List V} (F : FnR X.prog X.w X.K X.mg X.base (L2N.CX X.prog X.w) k f sp) (hr : Room k X.A) (tk : L2N.Takes X W) (h : sp vs H Q fun cls d H' => W cls d σ H') : callW X (.ref f) σ vs H Q := fun pins s us I r => by
  refine wpAny_call (codeAny_mono (F X.A X.stack s H us vs Q _ hr I.env0 r h) fun r s' hq => ?_)
  cases r with
  | error e => exact L2N.passAt tk σ pins H s e s' I hq
  | ok fl =>
    cases fl with
    | ret u => exact I.after hq
    | next => exact False.elim hq
    | brk => exact False.elim hq
    | cont => exact False.elim hq
theorem w_call {f : Addr} (h : wA X (e :: es) σ H fun vs H1 => callW X (.ref f) σ vs H1 Q) (hm : X.mg n = some (.ref f)) (hk : PySem.W.keepIn X.K (.ref f) = true) (hg : Gl X n := by rfl) (hdb : (n == ("__debug__" : Str)) = false := by decide)
    (he : starEach (e :: es) X.env = (false, eval e X.env) :: starEach es X.env := by rfl) (hpl : (backTo pos (starEach es X.env)).any (·.1) = false := by rfl) : wE X (.Call (.Name n pos') (e :: es) [] pos) σ H Q := wE.mk fun pins s I =>
  wpAny_Call_Name_kw (ld_glob I hg hm (PySem.W.callWith_K (h₀ := X.base) I.ok.mod.kin hk (thn (h.out pos pins s I) fun us s1 ⟨vs, H1, I1, r, q⟩ => ⟨I1.kIn, q pins s1 us I1 r⟩) he hpl) hdb)
theorem w_fld {f : Str} (h : wE X o σ H fun x H1 => ∃ a C dx fs v, x = .ref a ∧ H1 a = some (.ins C dx fs) ∧ Cls X.K C ∧ NoAttr X.K C f ∧ fs.lookup f = some v ∧ Q v H1) (hb : attributeBase o f X.env (eval o X.env) = eval o X.env := by rfl) : wE X (.Attribute o f pos) σ H Q := PE.w (pe_fld pe_W hb) h

theorem b_nil (h : D.nx σ H) : wB X [] D σ H := PSs.w pss_nil h
theorem b_cons (h : wS X st { D with nx := fun σ' H' => wB X ss D σ' H' } σ H) : wB X (st :: ss) D σ H := PSs.w (pss_cons ps_W pss_W) h
theorem s_ret (h : wE X e σ H D.rt) : wS X (.Return (some e) pos) D σ H := PS.w (ps_ret pe_W) h
theorem s_expr (h : wE X e σ H fun _ H1 => D.nx σ H1) (hs : swapsWith e none pos.line X.env = pure false := by rfl) : wS X (.Expr e pos) D σ H := PS.w (ps_expr pe_W hs) h
theorem s_if {s1 s2 : List Stmt} (h : wT X c σ H fun k H1 => if k = true then wB X s1 D σ H1 else wB X s2 D σ H1) : wS X (.If c s1 s2 pos) D σ H := PS.w (ps_if pt_W pss_W pss_W) h
theorem s_set (i : Nat) (h : wE X e σ H fun x H1 => D.nx (σ.set i (some x)) H1) (hN : X.N.Nodup) (hi : X.N[i]? = some n := by rfl) (hx : Loc X.env.scope n := by first | exact Or.inl rfl | exact Or.inr rfl) (hs : swapsWith e (some (.Name n pos')) pos.line X.env = pure false := by rfl) (hf : X.fn n = true ∨ X.env.scope.names.lookup n = some .local := by first | exact .inl rfl | exact .inr rfl | assumption) :
    wS X (.Assign [.Name n pos'] e pos) D σ H := PS.w (ps_set hN hi hx pe_W hs hf) h
theorem s_fld {f : Str} (h : wE X e σ H fun y H1 => wE X o σ H1 fun x H2 => ∃ a C dx fs, x = .ref a ∧ H2 a = some (.ins C dx fs) ∧ Cls X.K C ∧ NoAttr X.K C f ∧ fs.length < 1000 ∧ D.nx σ (upd H2 a (.ins C dx (putF f y fs))))
    (hs : swapsWith e (some (.Attribute o f pos')) pos.line X.env = pure false := by rfl) : wS X (.Assign [.Attribute o f pos'] e pos) D σ H := PS.w (ps_fld pe_W pe_W hs) h
theorem s_raise {W : WX} {t : L2.St → Hp → XK → Prop} (hc : X.calm = true) (tk : L2N.Takes X W) (he : L2N.PMk X e t) (h : t σ H fun cls d H' => W cls d σ H') : wS X (.Raise (some e) none pos) D σ H := PS.w (L2N.ps_raise hc tk he) h
theorem b_mono {D' : Ends} (h : wB X ss D σ H) (h1 : ∀ σ' H', D.nx σ' H' → D'.nx σ' H') (h2 : ∀ v H', D.rt v H' → D'.rt v H') (h3 : ∀ σ' H', D.bk σ' H' → D'.bk σ' H') (h4 : ∀ σ' H', D.ct σ' H' → D'.ct σ' H') : wB X ss D' σ H := wB.mk fun pins s I =>
  thn (h.out pins s I) fun f s' q => by
    cases f with
    | next => obtain ⟨a, b, c, d⟩ := q; exact ⟨a, b, c, h1 _ _ d⟩
    | brk => obtain ⟨a, b, c, d⟩ := q; exact ⟨a, b, c, h3 _ _ d⟩
    | cont => obtain ⟨a, b, c, d⟩ := q; exact ⟨a, b, c, h4 _ _ d⟩
    | ret u => obtain ⟨v, a, b, c, r, d⟩ := q; exact ⟨v, a, b, c, r, h2 _ _ d⟩
end
end L2.Tr

namespace PySem.W
open PySem PySem.Calls PyProof.Rows
section
variable {prog : Program} {w : World} {A : Around} {E : Value → Shared → Prop} {s : Shared} {K : Frag} {x C dx L f : Addr} {h₀ : Heap} {m : Str → Option Value} {ox : Obj} {od : Option Obj} {nm : String}
theorem tr_objNe {b : Value} {Q : Value → Shared → Prop} (hu : A.in1.units < cLine) (X : K.In s.heap) (I : InstAt s.heap x ox C od) (hm : mroIn K C (.type "object") = some true) (hr : findIn K (.ref C) "__eq__" = some (some (.ref f))) (hf : isFn K (.ref f) = true)
    (h : wpAny (model prog w) A.in1 (call (.ref f) [.ref x, b]) (fun v s' => ∃ k, v = .bool k ∧ Q (.bool (!k)) s') E s) : wpAny (model prog w) A (call (.builtin "object.__ne__") [.ref x, b]) Q E s := by
  refine wpAny_call (codeAny_call_builtin F.cmp_object.ne.plain F.cmpEntry_ne (check_slot (i := "object.__ne__") (owner := "object") (n := "__ne__") F.cmpKind_ne F.cmpSplit_ne (I.type.andThen (looks_mroIn X hm)) (F.cmpArgs_ne _ _) ?_))
  unfold Builtin.«object.__ne__»
  refine wpAny_bind (m := slotArgs "__ne__" 1 _) (wpAny_pure ?_)
  refine wpAny_bind (m := cRoomFor _ _) (wpAny_cRoomFor hu ?_)
  refine wpAny_bind (m := callSpecialIfBound? (.ref x) (Str.ofString "__eq__") _) (ifBound_K X I hr hf (wpAny_mono h (fun r s' hq => ?_) fun _ _ y => y))
  obtain ⟨k, rfl, hq⟩ := hq
  refine wpAny_bind (m := truthy (.bool k)) (wpAny_truthy_bool ?_)
  exact wpAny_pure hq
theorem tr_tryNe {b : Value} {Q : Option Value → Shared → Prop} (hu : A.in1.units < cLine) (X : K.In s.heap) (I : InstAt s.heap x ox C od) (hm : mroIn K C (.type "object") = some true) (hn : findIn K (.ref C) "__ne__" = some (some (.builtin "object.__ne__"))) (hr : findIn K (.ref C) "__eq__" = some (some (.ref f))) (hf : isFn K (.ref f) = true)
    (h : wpAny (model prog w) A.in1 (call (.ref f) [.ref x, b]) (fun v s' => ∃ k, v = .bool k ∧ Q (some (.bool (!k))) s') E s) : wpAny (model prog w) A (tryCompare (.ref x) "__ne__" b) Q E s := by
  unfold tryCompare
  simp only [callSpecialIfBound?, bindSpecialIfBound?]
  refine wpAny_bind (wpAny_holding (wpAny_bind (wpAny_bind (wpAny_bind (I.type.here ((looks_findIn X hn).here ?_))))))
  refine wpAny_bind (wpAny_askSetting (wpAny_ite ?_))
  have fin : wpAny (model prog w) A (call (.builtin "object.__ne__") ([.ref x] ++ [b]) >>= fun v => pure (some v)) (fun a s' => wpAny (model prog w) A (match a with | some .notImplemented => pure none | none => pure none | some v => pure (some v)) Q E s') E s :=
    wpAny_bind (tr_objNe hu X I hm hr hf (wpAny_mono h (fun v s' ⟨k, e, q⟩ => ⟨k, e, wpAny_pure (wpAny_pure q)⟩) fun _ _ h' => h'))
  simp only [F.cmp_object.ne.bind]
  split
  · exact wpAny_bind (wpAny_pure (wpAny_pure (by exact fin)))
  · exact wpAny_tryCatch (wpAny_bind (wpAny_pure (wpAny_pure (by exact fin))))
theorem tr_ne {b tb : Value} {Q : Value → Shared → Prop} (hu : A.in1.units < cLine) (hu0 : A.units < cLine) (X : K.In s.heap) (I : InstAt s.heap x ox C od) (hb : Looks (model prog w) s.heap (typeOf b) tb) (hnf : notFirst K C tb = true) (hm : mroIn K C (.type "object") = some true)
    (hn : findIn K (.ref C) "__ne__" = some (some (.builtin "object.__ne__"))) (hr : findIn K (.ref C) "__eq__" = some (some (.ref f))) (hf : isFn K (.ref f) = true)
    (h : wpAny (model prog w) A.in1 (call (.ref f) [.ref x, b]) (fun v s' => ∃ k, v = .bool k ∧ Q (.bool (!k)) s') E s) : wpAny (model prog w) A (richCompare .NotEq (.ref x) b) Q E s := by
  have one : wpAny (model prog w) A (tryCompare (.ref x) "__ne__" b) (fun r s' => ∃ v, r = some v ∧ Q v s') E s := tr_tryNe hu X I hm hn hr hf (wpAny_mono h (fun v s' ⟨k, e, q⟩ => ⟨k, e, _, rfl, q⟩) fun _ _ h' => h')
  unfold richCompare
  simp only [oneThing_ref]
  refine wpAny_holding (wpAny_bind (wpAny_cRoomFor hu0 ?_))
  refine wpAny_bind (I.type.here (wpAny_bind (hb.here ?_)))
  split
  · rename_i q
    have e : subIn K tb (.ref C) = some false := by
      rcases Bool.or_eq_true_iff.mp hnf with e | e
      · rw [beq_iff_eq.mp e] at q; simp at q
      · exact beq_iff_eq.mp e
    refine wpAny_bind ((looks_subIn X e).here ?_)
    simp only [Bool.false_eq_true, if_false]
    refine wpAny_bind (m := tryCompare (.ref x) _ b) (wpAny_mono one (fun r s' z => ?_) fun _ _ e => e)
    obtain ⟨v, rfl, hq⟩ := z
    exact wpAny_pure hq
  · refine wpAny_bind (wpAny_pure ?_)
    simp only [Bool.false_eq_true, if_false]
    refine wpAny_bind (m := tryCompare (.ref x) _ b) (wpAny_mono one (fun r s' z => ?_) fun _ _ e => e)
    obtain ⟨v, rfl, hq⟩ := z
    exact wpAny_pure hq
end
end PySem.W

namespace L2.Tr
open PySem PySem.Spec PyProof.Rows

inductive Pay where
  | int (i : Int) | str (s : Str) | bl (b : Bool) | non | frac (q : Rat) | wts (f : Str) (xs : List Rat)
structure Exn where
  cls : Str
  pay : List (Str × Pay)
inductive Res (α : Type) where
  | ok (a : α) | err (e : Exn) | stuck
namespace Res
variable {α β γ : Type}
def bind (m : Res α) (f : α → Res β) : Res β := match m with
  | .ok a => f a
  | .err e => .err e
  | .stuck => .stuck
@[simp] theorem ok_bind (a : α) (f : α → Res β) : (ok a).bind f = f a := rfl
@[simp] theorem err_bind (e : Exn) (f : α → Res β) : (err e : Res α).bind f = err e := rfl
@[simp] theorem stuck_bind (f : α → Res β) : (stuck : Res α).bind f = stuck := rfl
theorem bind_assoc (m : Res α) (f : α → Res β) (g : β → Res γ) : (m.bind f).bind g = m.bind fun a => (f a).bind g := by cases m <;> rfl
theorem bind_ok (m : Res α) : (m.bind fun a => ok a) = m := by cases m <;> rfl
def guard (p : Prop) [Decidable p] (m : Res α) : Res α := if p then m else stuck
theorem guard_pos {p : Prop} [Decidable p] (h : p) (m : Res α) : guard p m = m := if_pos h
end Res

abbrev Ra (α : Type) := Hp → Hp → V → α → Prop
abbrev Rp (α : Type) := Hp → V → α → Prop
abbrev rp {α : Type} (r : Rp α) : Ra α := fun I _ v x => r I v x
class Mo {α : Type} (r : Rp α) : Prop where
  up : ∀ {I I' : Hp} {v : V} {x : α}, Same I I' → r I v x → r I' v x
class MoA {α : Type} (r : Ra α) : Prop where
  up : ∀ {I H I' H' : Hp} {v : V} {x : α}, Same I I' → Same H H' → r I H v x → r I' H' v x
instance {α : Type} {r : Rp α} [m : Mo r] : MoA (rp r) := ⟨fun a _ h => m.up a h⟩
instance {α : Type} {r : Ra α} {H0 : Hp} [m : MoA r] : Mo (fun I v x => r I H0 v x) := ⟨fun a h => m.up a (Same.refl _) h⟩

def rInt : Rp Int := fun _ v x => v = .int x
def rBl : Rp Bool := fun _ v x => v = .bl x
def rStr : Rp Str := fun _ v x => v = .str x
def rNon : Rp Unit := fun _ v _ => v = .non
instance : Mo rInt := ⟨fun _ h => h⟩
instance : Mo rBl := ⟨fun _ h => h⟩
instance : Mo rStr := ⟨fun _ h => h⟩
instance : Mo rNon := ⟨fun _ h => h⟩
def frF (q : Rat) : List (Str × V) := [("top", .int q.num), ("bottom", .int (q.den : Int))]
def rFrac (K : PySem.W.Frag) : Rp Rat := fun I v q => ∃ a dx, v = .ref a ∧ I a = some (.ins (He.ga K "Fraction") dx (frF q))
instance {K : PySem.W.Frag} : Mo (rFrac K) := ⟨fun s ⟨a, dx, e, h⟩ => ⟨a, dx, e, s _ _ h⟩⟩
inductive Num where
  | i (n : Int) | q (r : Rat)
def Num.val : Num → Rat
  | .i n => (n : Rat)
  | .q r => r
def rNum (K : PySem.W.Frag) : Rp Num := fun I v x => match x with
  | .i n => v = .int n
  | .q r => rFrac K I v r
instance {K : PySem.W.Frag} : Mo (rNum K) := ⟨fun {I I' v x} s h => by
  cases x with
  | i n => exact h
  | q r => exact Mo.up (r := rFrac K) s h⟩
def rL {α : Type} (r : Rp α) : Rp (List α) := fun I v xs => ∃ l vs, v = .ref l ∧ I l = some (.lst vs) ∧ Paired (r I) vs xs
instance {α : Type} {r : Rp α} [m : Mo r] : Mo (rL r) := ⟨fun s ⟨l, vs, e, h, p⟩ => ⟨l, vs, e, s _ _ h, Paired.mapP p fun _ _ q => m.up s q⟩⟩
def rT {α : Type} (r : Rp α) : Rp (List α) := fun I v xs => ∃ l vs, v = .ref l ∧ I l = some (.tup vs) ∧ Paired (r I) vs xs
instance {α : Type} {r : Rp α} [m : Mo r] : Mo (rT r) := ⟨fun s ⟨l, vs, e, h, p⟩ => ⟨l, vs, e, s _ _ h, Paired.mapP p fun _ _ q => m.up s q⟩⟩
def rdL {α : Type} (K : PySem.W.Frag) (r : Ra α) : Ra (List α) := fun I H v xs => ∃ l vs, v = .ref l ∧ SqL K H l vs ∧ Paired (r I H) vs xs
instance {α : Type} {K : PySem.W.Frag} {r : Ra α} [m : MoA r] : MoA (rdL K r) := ⟨fun s t ⟨l, vs, e, h, p⟩ => ⟨l, vs, e, t.seq h, Paired.mapP p fun _ _ q => m.up s t q⟩⟩

def PayR (K : PySem.W.Frag) (I : Hp) (v : V) : Pay → Prop
  | .int i => v = .int i
  | .str s => v = .str s
  | .bl b => v = .bl b
  | .non => v = .non
  | .frac q => rFrac K I v q
  | .wts f xs => ∃ a dx b dy l vs, v = .ref a ∧ I a = some (.ins (He.ga K "Weights") dx [("form", .str f), ("root", .ref b)]) ∧ I b = some (.ins (He.ga K "Polynomial") dy [("kept", .ref l)]) ∧ I l = some (.lst vs) ∧ Paired (rFrac K I) vs xs
def ExR (K : PySem.W.Frag) (I H : Hp) (e : Exn) (cls : Value) (d : Option Addr) : Prop := cls = .ref (He.ga K e.cls) ∧ (match d with
  | none => e.pay = []
  | some a => e.pay ≠ [] ∧ ∃ fs : List (Str × V), H a = some (.xd fs) ∧ I a = none ∧ Paired (fun (p : Str × V) (q : Str × Pay) => p.1 = q.1 ∧ PayR K I p.2 q.2) fs e.pay)

structure Fm (I H I' H' : Hp) : Prop where
  i : Same I I'
  h : Same H H'
  ih : Same I' H'
  mu : ∀ l, I l = none → H l ≠ none → I' l = none
theorem Fm.refl {I H : Hp} (h : Same I H) : Fm I H I H := ⟨Same.refl _, Same.refl _, h, fun _ e _ => e⟩
theorem Fm.trans {I H I1 H1 I2 H2 : Hp} (a : Fm I H I1 H1) (b : Fm I1 H1 I2 H2) : Fm I H I2 H2 :=
  ⟨a.i.trans b.i, a.h.trans b.h, b.ih, fun l e n => b.mu l (a.mu l e n) fun q => by
    cases z : H l with
    | none => exact n z
    | some o => rw [a.h l o z] at q; cases q⟩
theorem Fm.new {I H : Hp} {p : Addr} {o : HO} (s : Same I H) (h : H p = none) : Fm I H (upd I p o) (upd H p o) :=
  ⟨fun b u e => by rw [upd_ne (ne_of_none (s _ _ e) h)]; exact e, fun b u e => by rw [upd_ne (ne_of_none e h)]; exact e, fun b u e => by
    by_cases hb : b = p
    · subst hb; rw [upd_same] at e ⊢; exact e
    · rw [upd_ne hb] at e ⊢; exact s _ _ e, fun l e n => by
    have : l ≠ p := fun q => n (q ▸ h)
    rw [upd_ne this]; exact e⟩
theorem Fm.newM {I H : Hp} {p : Addr} {o : HO} (s : Same I H) (h : H p = none) : Fm I H I (upd H p o) :=
  ⟨Same.refl _, fun b u e => by rw [upd_ne (ne_of_none e h)]; exact e, fun b u e => by rw [upd_ne (ne_of_none (s _ _ e) h)]; exact s _ _ e, fun l e n => e⟩

def Fr (H : Hp) (d : Option Addr) : Prop := ∀ a, d = some a → H a = none
theorem Fr.back {H H' : Hp} {d : Option Addr} (f : Fr H' d) (s : Same H H') : Fr H d := fun a e => s.free (f a e)
def PostE {α : Type} (K : PySem.W.Frag) (m : Res α) (r : Ra α) (I H : Hp) (E : XK) (Q : VK) : Prop := match m with
  | .ok a => ∀ I' H' v, Fm I H I' H' → r I' H' v a → Q v H'
  | .err e => ∀ I' H' cls d, Fm I H I' H' → Fr H d ∧ ExR K I' H' e cls d → E cls d H'
  | .stuck => False
theorem PostE.up {α : Type} {K : PySem.W.Frag} {m : Res α} {r : Ra α} {I H I1 H1 : Hp} {E : XK} {Q : VK} (h : PostE K m r I H E Q) (f : Fm I H I1 H1) : PostE K m r I1 H1 E Q := by
  cases m with
  | ok a => exact fun I' H' v g => h I' H' v (f.trans g)
  | err e => exact fun I' H' c d g x => h I' H' c d (f.trans g) ⟨x.1.back f.h, x.2⟩
  | stuck => exact h
theorem PostE.imp {α : Type} {K : PySem.W.Frag} {m : Res α} {r : Ra α} {I H : Hp} {E : XK} {Q Q' : VK} (h : PostE K m r I H E Q) (g : ∀ v H', Q v H' → Q' v H') : PostE K m r I H E Q' := by
  cases m with
  | ok a => exact fun I' H' v f r => g _ _ (h I' H' v f r)
  | err e => exact h
  | stuck => exact h

structure SF where
  {α : Type}
  r : Rp α
  [mo : Mo r]
  x : α
structure MF where
  Q : Hp → Hp → List Addr → Prop
  mo : ∀ {I I' H : Hp} {fp : List Addr}, Same I I' → Q I H fp → Q I' H fp
  lo : ∀ {I H H' : Hp} {fp : List Addr}, (∀ a, a ∈ fp → H' a = H a) → Q I H fp → Q I H' fp
def MF.one (l : Addr) (P : Hp → HO → Prop) (mo : ∀ {I I' : Hp} {o : HO}, Same I I' → P I o → P I' o) : MF := ⟨fun I H fp => fp = [l] ∧ ∃ o, H l = some o ∧ P I o, fun s ⟨e, o, h, p⟩ => ⟨e, o, h, mo s p⟩, fun k ⟨e, o, h, p⟩ => ⟨e, o, by rw [k l (by rw [e]; exact List.mem_singleton_self l)]; exact h, p⟩⟩
def MF.lst {α : Type} (l : Addr) (r : Rp α) [m : Mo r] (xs : List α) : MF := .one l (fun I o => ∃ vs, o = .lst vs ∧ Paired (r I) vs xs) (fun s ⟨vs, e, p⟩ => ⟨vs, e, Paired.mapP p fun _ _ q => m.up s q⟩)
def FldR (I : Hp) : List (Str × V) → List (Str × SF) → Prop
  | [], [] => True
  | p :: fs, q :: gs => p.1 = q.1 ∧ q.2.r I p.2 q.2.x ∧ FldR I fs gs
  | _, _ => False
theorem FldR.up {I I' : Hp} (s : Same I I') : ∀ {fs : List (Str × V)} {gs : List (Str × SF)}, FldR I fs gs → FldR I' fs gs
  | [], [], h => h
  | _ :: _, q :: _, ⟨a, b, c⟩ => ⟨a, q.2.mo.up s b, FldR.up s c⟩
  | [], _ :: _, h => h
  | _ :: _, [], h => h
def MF.ins (l C dx : Addr) (gs : List (Str × SF)) : MF := .one l (fun I o => ∃ fs, o = .ins C dx fs ∧ FldR I fs gs) (fun s ⟨fs, e, p⟩ => ⟨fs, e, FldR.up s p⟩)
def Regs (I H : Hp) : List MF → List (List Addr) → Prop
  | [], [] => True
  | c :: mem, fp :: fps => c.Q I H fp ∧ Regs I H mem fps
  | _, _ => False
structure Stt (I0 H0 : Hp) (ctx : List (Option SF)) (mem : List MF) (I H : Hp) (σ : St) : Prop where
  fm : Fm I0 H0 I H
  len : σ.length = ctx.length
  sl : ∀ (i : Nat) (sf : SF), ctx[i]? = some (some sf) → ∃ v, σ[i]? = some (some v) ∧ sf.r I v sf.x
  me : ∃ fps, Regs I H mem fps ∧ fps.flatten.Nodup ∧ ∀ a, a ∈ fps.flatten → H0 a = none ∧ I a = none ∧ H a ≠ none
theorem Regs.up {I I' H H' : Hp} (s : Same I I') : ∀ {mem : List MF} {fps : List (List Addr)}, (∀ a, a ∈ fps.flatten → H' a = H a) → Regs I H mem fps → Regs I' H' mem fps
  | [], [], _, h => h
  | c :: _, fp :: fps, k, ⟨a, b⟩ => ⟨c.lo (fun x hx => k x (by rw [List.flatten_cons]; exact List.mem_append_left _ hx)) (c.mo s a), Regs.up s (fun x hx => k x (by rw [List.flatten_cons]; exact List.mem_append_right _ hx)) b⟩
  | [], _ :: _, _, h => h
  | _ :: _, [], _, h => h
theorem Regs.get {I H : Hp} : ∀ {mem : List MF} {fps : List (List Addr)} {j : Nat} {c : MF}, Regs I H mem fps → mem[j]? = some c → ∃ fp, fps[j]? = some fp ∧ c.Q I H fp
  | [], _, _, _, _, e => by simp at e
  | d :: _, fp :: _, 0, c, ⟨a, _⟩, e => ⟨fp, rfl, by
    have : d = c := by simpa using e
    rw [← this]; exact a⟩
  | _ :: mem, _ :: fps, j + 1, c, ⟨_, b⟩, e => by
    have e' : mem[j]? = some c := by simpa using e
    obtain ⟨fp, e1, q⟩ := Regs.get b e'
    exact ⟨fp, by simpa using e1, q⟩
  | _ :: _, [], _, _, h, _ => h.elim
section
variable {I0 H0 I H I' H' : Hp} {ctx : List (Option SF)} {mem : List MF} {σ : St}
theorem Stt.same (s : Stt I0 H0 ctx mem I H σ) : Same I H := s.fm.ih
theorem Stt.step (s : Stt I0 H0 ctx mem I H σ) (f : Fm I H I' H') : Stt I0 H0 ctx mem I' H' σ := by
  obtain ⟨fps, rg, nd, k⟩ := s.me
  have key : ∀ a, a ∈ fps.flatten → H' a = H a := fun a ha => by
    obtain ⟨_, _, h3⟩ := k a ha
    cases e : H a with
    | none => exact absurd e h3
    | some o => exact f.h _ _ e
  refine ⟨s.fm.trans f, s.len, fun i sf e => ?_, fps, rg.up f.i key, nd, fun a ha => ?_⟩
  · obtain ⟨v, e1, h⟩ := s.sl i sf e
    exact ⟨v, e1, sf.mo.up f.i h⟩
  · obtain ⟨h1, h2, h3⟩ := k a ha
    exact ⟨h1, f.mu _ h2 h3, by rw [key a ha]; exact h3⟩
theorem Stt.me1 (s : Stt I0 H0 ctx mem I H σ) {j : Nat} {l : Addr} {P : Hp → HO → Prop} {c : MF} (hj : mem[j]? = some c) (hc : ∀ {I H : Hp} {fp : List Addr}, c.Q I H fp → fp = [l] ∧ ∃ o, H l = some o ∧ P I o) : H0 l = none ∧ I l = none ∧ ∃ o, H l = some o ∧ P I o := by
  obtain ⟨fps, rg, nd, k⟩ := s.me
  obtain ⟨fp, e, q⟩ := rg.get hj
  obtain ⟨e1, q⟩ := hc q
  obtain ⟨h1, h2, _⟩ := k l (List.mem_flatten.mpr ⟨fp, List.mem_of_getElem? e, by rw [e1]; exact List.mem_singleton_self l⟩)
  exact ⟨h1, h2, q⟩
theorem Stt.insAt (s : Stt I0 H0 ctx mem I H σ) {j : Nat} {l C dx : Addr} {gs : List (Str × SF)} (hj : mem[j]? = some (MF.ins l C dx gs)) : H0 l = none ∧ I l = none ∧ ∃ o, H l = some o ∧ ∃ fs, o = .ins C dx fs ∧ FldR I fs gs :=
  s.me1 (P := fun I o => ∃ fs, o = .ins C dx fs ∧ FldR I fs gs) hj fun q => q
theorem Stt.set (s : Stt I0 H0 ctx mem I H σ) (i : Nat) {α : Type} {r : Rp α} [mo : Mo r] {x : α} {v : V} (h : r I v x) : Stt I0 H0 (ctx.set i (some ⟨r, x⟩)) mem I H (σ.set i (some v)) := by
  refine ⟨s.fm, by rw [List.length_set, List.length_set]; exact s.len, fun j sf e => ?_, s.me⟩
  by_cases hj : j = i
  · subst hj
    rw [List.getElem?_set] at e
    by_cases hl : j < ctx.length
    · simp only [hl, if_true] at e
      cases e
      exact ⟨v, by rw [List.getElem?_set]; simp [s.len, hl], h⟩
    · simp only [hl, if_true, if_false] at e
      cases e
  · rw [List.getElem?_set_ne (Ne.symm hj)] at e
    obtain ⟨w, e1, q⟩ := s.sl j sf e
    exact ⟨w, by rw [List.getElem?_set_ne (Ne.symm hj)]; exact e1, q⟩
end
section
variable {α β γ δ : Type}
def JE (X : Cx) (I0 H0 : Hp) (W : WX) (ctx : List (Option SF)) (mem : List MF) (e : Expr) (m : Res α) (r : Ra α) : Prop :=
  ∀ (I H : Hp) (σ : St) (Q : VK), Stt I0 H0 ctx mem I H σ → PostE X.K m r I H (fun cls d H' => W cls d σ H') Q → wE X e σ H Q
def JT (X : Cx) (I0 H0 : Hp) (W : WX) (ctx : List (Option SF)) (mem : List MF) (e : Expr) (m : Res Bool) : Prop :=
  ∀ (I H : Hp) (σ : St) (Q : Bool → Hp → Prop), Stt I0 H0 ctx mem I H σ → PostE X.K m (rp rBl) I H (fun cls d H' => W cls d σ H') (fun v H' => ∀ b, v = .bl b → Q b H') → wT X e σ H Q
def OpJ (X : Cx) (W : WX) (f : Value → Value → Sem Value) (ra : Ra α) (rb : Ra β) (g : α → β → Res γ) (rc : Ra γ) : Prop :=
  ∀ (I H : Hp) (σ : St) (Q : VK) (u v : V) (x : α) (y : β), Same I H → ra I H u x → rb I H v y → PostE X.K (g x y) rc I H (fun cls d H' => W cls d σ H') Q → opW X f σ u v H Q
def UnJ (X : Cx) (W : WX) (f : Value → Sem Value) (ra : Ra α) (g : α → Res γ) (rc : Ra γ) : Prop :=
  ∀ (I H : Hp) (σ : St) (Q : VK) (u : V) (x : α), Same I H → ra I H u x → PostE X.K (g x) rc I H (fun cls d H' => W cls d σ H') Q → unW X f σ u H Q
def CallJ (X : Cx) (W : WX) (f : Value) (R : Hp → Hp → List V → δ → Prop) (g : δ → Res γ) (rc : Ra γ) : Prop :=
  ∀ (I H : Hp) (σ : St) (Q : VK) (vs : List V) (x : δ), Same I H → R I H vs x → PostE X.K (g x) rc I H (fun cls d H' => W cls d σ H') Q → callW X f σ vs H Q
def JA (X : Cx) (I0 H0 : Hp) (W : WX) (ctx : List (Option SF)) (mem : List MF) (es : List Expr) (m : Res δ) (R : Hp → Hp → List V → δ → Prop) : Prop :=
  ∀ (I H : Hp) (σ : St) (Q : List V → Hp → Prop), Stt I0 H0 ctx mem I H σ → (match m with
    | .ok a => ∀ I' H' vs, Fm I H I' H' → R I' H' vs a → Q vs H'
    | .err e => ∀ I' H' cls d, Fm I H I' H' → Fr H d ∧ ExR X.K I' H' e cls d → W cls d σ H'
    | .stuck => False) → wA X es σ H Q
def aNil : Hp → Hp → List V → Unit → Prop := fun _ _ vs _ => vs = []
def aCons (r : Ra α) (R : Hp → Hp → List V → δ → Prop) : Hp → Hp → List V → α × δ → Prop := fun I H vs x => ∃ v ws, vs = v :: ws ∧ r I H v x.1 ∧ R I H ws x.2

variable {X : Cx} {I0 H0 : Hp} {W : WX} {ctx : List (Option SF)} {mem : List MF} {e a b c o : Expr} {es : List Expr} {pos pos' : Pos} {n : Str} {ra : Ra α} {rb : Ra β} {rc : Ra γ} {ma : Res α} {mb : Res β}

theorem JE.co {m : Res α} {r : Ra α} {r' : Ra α} (j : JE X I0 H0 W ctx mem e m r) (c : ∀ I H v x, Same I H → r I H v x → r' I H v x) : JE X I0 H0 W ctx mem e m r' := fun I H σ Q st p => j I H σ Q st (by
  cases m with
  | ok a => exact fun I' H' v f q => p I' H' v f (c _ _ _ _ f.ih q)
  | err e => exact p
  | stuck => exact p)
theorem JE.map {m : Res α} {r : Ra α} {r' : Ra β} {g : α → β} (j : JE X I0 H0 W ctx mem e m r) (c : ∀ I H v x, Same I H → r I H v x → r' I H v (g x)) : JE X I0 H0 W ctx mem e (m.bind fun x => .ok (g x)) r' := fun I H σ Q st p => j I H σ Q st (by
  cases m with
  | ok a => exact fun I' H' v f q => p I' H' v f (c _ _ _ _ f.ih q)
  | err e => exact p
  | stuck => exact p)
theorem JE.var (i : Nat) {r : Rp α} {mo : Mo r} {x : α} (hc : ctx[i]? = some (some (@SF.mk α r mo x)) := by rfl) (hN : X.N[i]? = some n := by rfl) (hv : Vis X.env.scope n := by first | exact Or.inl rfl | exact Or.inr (Or.inl rfl) | exact Or.inr (Or.inr rfl)) (hd : (n == ("__debug__" : Str)) = false := by decide)
    (hcd : (n == ("__classdict__" : Str)) = false := by decide) : JE X I0 H0 W ctx mem (.Name n pos) (.ok x) (rp r) := fun I H σ Q st p => by
  obtain ⟨v, e, h⟩ := st.sl i _ hc
  exact w_var i (p I H v (Fm.refl st.same) h) e hN hv hd hcd
theorem JE.varP (i : Nat) {r : Ra α} {mo : Mo (fun I v x => r I H0 v x)} {x : α} [m : MoA r] (hc : ctx[i]? = some (some (@SF.mk α (fun I v x => r I H0 v x) mo x)) := by rfl) (hN : X.N[i]? = some n := by rfl) (hv : Vis X.env.scope n := by first | exact Or.inl rfl | exact Or.inr (Or.inl rfl) | exact Or.inr (Or.inr rfl)) (hd : (n == ("__debug__" : Str)) = false := by decide)
    (hcd : (n == ("__classdict__" : Str)) = false := by decide) : JE X I0 H0 W ctx mem (.Name n pos) (.ok x) r := fun I H σ Q st p => by
  obtain ⟨v, e, h⟩ := st.sl i _ hc
  exact w_var i (p I H v (Fm.refl st.same) (m.up (Same.refl _) st.fm.h h)) e hN hv hd hcd
theorem JE.int {i : Int} {j} : JE X I0 H0 W ctx mem (.Constant (.int i) j pos) (.ok i) (rp rInt) := fun I H σ Q st p => w_int (p I H _ (Fm.refl st.same) rfl)
theorem JE.bl {i : Bool} {j} : JE X I0 H0 W ctx mem (.Constant (.bool i) j pos) (.ok i) (rp rBl) := fun I H σ Q st p => w_bl (p I H _ (Fm.refl st.same) rfl)
theorem JE.str {i : Str} {j} : JE X I0 H0 W ctx mem (.Constant (.str i) j pos) (.ok i) (rp rStr) := fun I H σ Q st p => w_str (p I H _ (Fm.refl st.same) rfl)
theorem JE.bin {op : Operator} {g : α → β → Res γ} [MoA ra] (ja : JE X I0 H0 W ctx mem a ma ra) (jb : JE X I0 H0 W ctx mem b mb rb) (o : OpJ X W (binaryOp op) ra rb g rc) : JE X I0 H0 W ctx mem (.BinOp a op b pos) (ma.bind fun x => mb.bind fun y => g x y) rc := fun I H σ Q st p => by
  refine w_bin (ja I H σ _ st ?_)
  cases ma with
  | ok x =>
    intro I1 H1 u f1 r1
    refine jb I1 H1 σ _ (st.step f1) ?_
    have p1 := PostE.up p f1
    cases mb with
    | ok y => exact fun I2 H2 v f2 r2 => o I2 H2 σ Q u v x y f2.ih (MoA.up f2.i f2.h r1) r2 (PostE.up p1 f2)
    | err e => exact p1
    | stuck => exact p1
  | err e => exact p
  | stuck => exact p
theorem JE.cmp {op : CmpOp} {g : α → β → Res γ} [MoA ra] (ja : JE X I0 H0 W ctx mem a ma ra) (jb : JE X I0 H0 W ctx mem b mb rb) (o : OpJ X W (compareOp op) ra rb g rc) (hm : behindInMarks op b = false := by first | exact nomark _ | rfl) : JE X I0 H0 W ctx mem (.Compare a [op] [b] pos) (ma.bind fun x => mb.bind fun y => g x y) rc := fun I H σ Q st p => by
  refine w_cmp (ja I H σ _ st ?_) hm
  cases ma with
  | ok x =>
    intro I1 H1 u f1 r1
    refine jb I1 H1 σ _ (st.step f1) ?_
    have p1 := PostE.up p f1
    cases mb with
    | ok y => exact fun I2 H2 v f2 r2 => o I2 H2 σ Q u v x y f2.ih (MoA.up f2.i f2.h r1) r2 (PostE.up p1 f2)
    | err e => exact p1
    | stuck => exact p1
  | err e => exact p
  | stuck => exact p
theorem JT.cmp {op : CmpOp} {g : α → β → Res Bool} [MoA ra] (ja : JE X I0 H0 W ctx mem a ma ra) (jb : JE X I0 H0 W ctx mem b mb rb) (o : OpJ X W (compareOp op) ra rb g (rp rBl)) (hm : behindInMarks op b = false := by first | exact nomark _ | rfl) : JT X I0 H0 W ctx mem (.Compare a [op] [b] pos) (ma.bind fun x => mb.bind fun y => g x y) := fun I H σ Q st p => by
  refine w_tcmp (ja I H σ _ st ?_) hm
  cases ma with
  | ok x =>
    intro I1 H1 u f1 r1
    refine jb I1 H1 σ _ (st.step f1) ?_
    have p1 := PostE.up p f1
    cases mb with
    | ok y =>
      intro I2 H2 v f2 r2
      refine o I2 H2 σ _ u v x y f2.ih (MoA.up f2.i f2.h r1) r2 ?_
      have p2 := PostE.up p1 f2
      revert p2
      show PostE X.K (g x y) _ _ _ _ _ → _
      generalize g x y = z
      intro p2
      cases z with
      | ok k => intro I3 H3 v3 f3 r3; cases r3; exact tru_bl (p2 I3 H3 _ f3 rfl k rfl)
      | err e => exact p2
      | stuck => exact p2
    | err e => exact p1
    | stuck => exact p1
  | err e => exact p
  | stuck => exact p
theorem JE.un {op : UnaryOp} {g : α → Res γ} (ja : JE X I0 H0 W ctx mem a ma ra) (o : UnJ X W (unaryOp op) ra g rc) : JE X I0 H0 W ctx mem (.UnaryOp op a pos) (ma.bind fun x => g x) rc := fun I H σ Q st p => by
  refine w_un (ja I H σ _ st ?_)
  cases ma with
  | ok x => exact fun I1 H1 u f1 r1 => o I1 H1 σ Q u x f1.ih r1 (PostE.up p f1)
  | err e => exact p
  | stuck => exact p
theorem JT.of {m : Res Bool} (j : JE X I0 H0 W ctx mem e m (rp rBl)) (he : ∀ whole, isTrue e X.env whole = (do let v ← whole; standAt e.pos; holding [v] (truthy v)) := by intro _; rfl) : JT X I0 H0 W ctx mem e m := fun I H σ Q st p => by
  refine w_t (j I H σ _ st ?_) he
  cases m with
  | ok k => intro I1 H1 v f1 r1; cases r1; exact tru_bl (p I1 H1 _ f1 rfl k rfl)
  | err e => exact p
  | stuck => exact p
theorem JT.not {m : Res Bool} (j : JT X I0 H0 W ctx mem e m) : JT X I0 H0 W ctx mem (.UnaryOp .Not e pos) (m.bind fun b => .ok (!b)) := fun I H σ Q st p => by
  refine w_not (j I H σ _ st ?_)
  cases m with
  | ok k => exact fun I1 H1 v f1 r1 b hb => by cases r1; cases hb; exact p I1 H1 _ f1 rfl _ rfl
  | err e => exact p
  | stuck => exact p
end
end L2.Tr

namespace L2.Tr
open PySem PySem.Spec PyProof.Rows
section
variable {α β γ δ S : Type}
def JW (X : Cx) (I0 H0 : Hp) (W : WX) (ctx : List (Option SF)) (mem : List MF) (e : Expr) (m : Res Bool) : Prop :=
  ∀ (I H : Hp) (σ : St) (Q : Bool → Hp → Prop), Stt I0 H0 ctx mem I H σ → PostE X.K m (rp rBl) I H (fun cls d H' => W cls d σ H') (fun v H' => ∀ b, v = .bl b → Q b H') → wW X e σ H Q
variable {X : Cx} {I0 H0 : Hp} {W : WX} {ctx : List (Option SF)} {mem : List MF} {e a b c o : Expr} {es bs : List Expr} {pos pos' : Pos} {n : Str} {ra : Ra α} {rb : Ra β} {rc : Ra γ} {ma : Res α} {mb : Res β} {m1 m2 mc : Res Bool}
theorem JT.bool {op} (j : JW X I0 H0 W ctx mem (.BoolOp op es pos) m1) : JT X I0 H0 W ctx mem (.BoolOp op es pos) m1 := fun I H σ Q st p => w_tbool (j I H σ Q st p)
theorem JW.or1 (j : JT X I0 H0 W ctx mem a m1) : JW X I0 H0 W ctx mem (.BoolOp .Or [a] pos) m1 := fun I H σ Q st p => w_or1 (j I H σ Q st p)
theorem JW.or (j : JT X I0 H0 W ctx mem a m1) (k : JW X I0 H0 W ctx mem (.BoolOp .Or (b :: bs) pos) m2) : JW X I0 H0 W ctx mem (.BoolOp .Or (a :: b :: bs) pos) (m1.bind fun x => if x = true then .ok true else m2) := fun I H σ Q st p => by
  refine w_or (j I H σ _ st ?_)
  cases m1 with
  | ok x =>
    intro I1 H1 v f r y hy
    cases r; cases hy
    have p1 := PostE.up p f
    cases x with
    | true => exact iteT (p1 I1 H1 _ (Fm.refl f.ih) rfl _ rfl)
    | false => exact iteF (k I1 H1 σ Q (st.step f) p1)
  | err e => exact p
  | stuck => exact p
theorem JE.one {op} {m : Res Bool} (j : JE X I0 H0 W ctx mem a m (rp rBl)) : JE X I0 H0 W ctx mem (.BoolOp op [a] pos) m (rp rBl) := fun I H σ Q st p => w_oneV (j I H σ Q st p)
theorem JE.and (j : JE X I0 H0 W ctx mem a m1 (rp rBl)) (k : JE X I0 H0 W ctx mem (.BoolOp .And (b :: bs) pos) m2 (rp rBl)) : JE X I0 H0 W ctx mem (.BoolOp .And (a :: b :: bs) pos) (m1.bind fun x => if x = true then m2 else .ok false) (rp rBl) := fun I H σ Q st p => by
  refine w_andV (j I H σ _ st ?_)
  cases m1 with
  | ok x =>
    intro I1 H1 v f r
    have p1 := PostE.up p f
    refine ⟨x, r, ?_⟩
    cases x with
    | true => exact iteT (k I1 H1 σ Q (st.step f) p1)
    | false => exact iteF (p1 I1 H1 _ (Fm.refl f.ih) rfl)
  | err e => exact p
  | stuck => exact p
theorem JA.nil : JA X I0 H0 W ctx mem [] (.ok ()) aNil := fun I H σ Q st p => w_nil (p I H [] (Fm.refl st.same) rfl)
theorem JA.cons {R : Hp → Hp → List V → δ → Prop} {m : Res δ} [MoA ra] (j : JE X I0 H0 W ctx mem e ma ra) (k : JA X I0 H0 W ctx mem es m R) (hs : starEach (e :: es) X.env = (false, eval e X.env) :: starEach es X.env := by rfl) :
    JA X I0 H0 W ctx mem (e :: es) (ma.bind fun x => m.bind fun y => .ok (x, y)) (aCons ra R) := fun I H σ Q st p => by
  refine Tr.w_cons (j I H σ _ st ?_) hs
  cases ma with
  | ok x =>
    intro I1 H1 v f1 r1
    refine k I1 H1 σ _ (st.step f1) ?_
    cases m with
    | ok y => exact fun I2 H2 vs f2 r2 => p I2 H2 _ (f1.trans f2) ⟨v, vs, rfl, MoA.up f2.i f2.h r1, r2⟩
    | err e => exact fun I2 H2 c d f2 x => p I2 H2 c d (f1.trans f2) ⟨x.1.back f1.h, x.2⟩
    | stuck => exact p
  | err e => exact p
  | stuck => exact p
variable {R : Hp → Hp → List V → δ → Prop} {md : Res δ} {g : δ → Res γ}
theorem JA.call (k : JA X I0 H0 W ctx mem es md R) {f : Value} (cj : CallJ X W f R g rc) {I H : Hp} {σ : St} {Q : VK} (st : Stt I0 H0 ctx mem I H σ) (p : PostE X.K (md.bind g) rc I H (fun cls d H' => W cls d σ H') Q) : wA X es σ H fun vs H1 => callW X f σ vs H1 Q := by
  refine k I H σ _ st ?_
  cases md with
  | ok x => exact fun I1 H1 vs f1 r1 => cj I1 H1 σ Q vs x f1.ih r1 (PostE.up p f1)
  | err e => exact p
  | stuck => exact p
theorem JE.call {f : Addr} (k : JA X I0 H0 W ctx mem (e :: es) md R) (cj : CallJ X W (.ref f) R g rc) (hm : X.mg n = some (.ref f)) (hk : PySem.W.keepIn X.K (.ref f) = true) (hg : Gl X n := by rfl) (hdb : (n == ("__debug__" : Str)) = false := by decide)
    (he : starEach (e :: es) X.env = (false, eval e X.env) :: starEach es X.env := by rfl) (hpl : (backTo pos (starEach es X.env)).any (·.1) = false := by rfl) : JE X I0 H0 W ctx mem (.Call (.Name n pos') (e :: es) [] pos) (md.bind g) rc := fun I H σ Q st p =>
  w_call (k.call cj st p) hm hk hg hdb he hpl
theorem JE.callB {id : String} (k : JA X I0 H0 W ctx mem (e :: es) md R) (cj : CallJ X W (.builtin id) R g rc) (hm : X.mg n = none) (hv : bootBuiltins n = some (.builtin id)) (hg : Gl X n := by rfl) (hn : n ≠ "__name__" := by decide) (hdb : (n == ("__debug__" : Str)) = false := by decide)
    (he : starEach (e :: es) X.env = (false, eval e X.env) :: starEach es X.env := by rfl) (hpl : (backTo pos (starEach es X.env)).any (·.1) = false := by rfl) : JE X I0 H0 W ctx mem (.Call (.Name n pos') (e :: es) [] pos) (md.bind g) rc := fun I H σ Q st p =>
  w_callB (k.call cj st p) hm hv hg hn hdb he hpl
theorem JE.callTy {T : String} (k : JA X I0 H0 W ctx mem (e :: es) md R) (cj : CallJ X W (.type T) R g rc) (hm : X.mg n = none) (hv : bootBuiltins n = some (.type T)) (hg : Gl X n := by rfl) (hn : n ≠ "__name__" := by decide) (hdb : (n == ("__debug__" : Str)) = false := by decide)
    (he : starEach (e :: es) X.env = (false, eval e X.env) :: starEach es X.env := by rfl) (hpl : (backTo pos (starEach es X.env)).any (·.1) = false := by rfl) : JE X I0 H0 W ctx mem (.Call (.Name n pos') (e :: es) [] pos) (md.bind g) rc := fun I H σ Q st p =>
  w_callTy (k.call cj st p) hm hv hg hn hdb he hpl
def FldOf (K : PySem.W.Frag) (C : Addr) (r : Ra α) (f : Str) (get : α → β) (rf : Ra β) : Prop := ∀ I H v x, Same I H → r I H v x → ∃ a dx fs w, v = .ref a ∧ H a = some (.ins C dx fs) ∧ fs.lookup f = some w ∧ rf I H w (get x)
theorem JE.fld {C : Addr} {f : Str} {get : α → β} (j : JE X I0 H0 W ctx mem o ma ra) (hf : FldOf X.K C ra f get rb) (c : Cls X.K C) (hn : NoAttr X.K C f) (hb : attributeBase o f X.env (eval o X.env) = eval o X.env := by rfl) :
    JE X I0 H0 W ctx mem (.Attribute o f pos) (ma.bind fun x => .ok (get x)) rb := fun I H σ Q st p => by
  refine w_fld (j I H σ _ st ?_) hb
  cases ma with
  | ok x =>
    intro I1 H1 v f1 r1
    obtain ⟨a, dx, fs, w, ev, ha, hl, hw⟩ := hf I1 H1 v x f1.ih r1
    exact ⟨a, C, dx, fs, w, ev, ha, c, hn, hl, p I1 H1 w f1 hw⟩
  | err e => exact p
  | stuck => exact p
end

section
variable {α β γ δ S : Type}
abbrev Knows := Hp → Hp → St → Prop
abbrev KnowsX := Hp → Hp → St → Option Addr → Prop
def PostB (X : Cx) (W : WX) (Kx : KnowsX) (I : Hp) (m : Res S) (G : S → Knows) (D : Ends) : Prop := match m with
  | .ok s => ∀ I' H' σ', Same I I' → G s I' H' σ' → D.nx σ' H'
  | .err e => ∀ I' H' σ' cls d, Kx I' H' σ' d → ExR X.K I' H' e cls d → W cls d σ' H'
  | .stuck => False
def PostR (X : Cx) (I0 H0 : Hp) (W : WX) (Kx : KnowsX) (m : Res γ) (r : Ra γ) (D : Ends) : Prop := match m with
  | .ok y => ∀ I' H' v, Fm I0 H0 I' H' → r I' H' v y → D.rt v H'
  | .err e => ∀ I' H' σ' cls d, Kx I' H' σ' d → ExR X.K I' H' e cls d → W cls d σ' H'
  | .stuck => False
theorem PostB.up {X : Cx} {W : WX} {Kx : KnowsX} {I I1 : Hp} {m : Res S} {G : S → Knows} {D : Ends} (p : PostB X W Kx I m G D) (s : Same I I1) : PostB X W Kx I1 m G D := by
  cases m with
  | ok a => exact fun I' H' σ' q => p I' H' σ' (s.trans q)
  | err e => exact p
  | stuck => exact p
def J1 (X : Cx) (W : WX) (Kx : KnowsX) (G : Knows) (st : Stmt) (m : Res S) (G' : S → Knows) : Prop := ∀ (I H : Hp) (σ : St) (D : Ends), G I H σ → PostB X W Kx I m G' D → wS X st D σ H
def JN (X : Cx) (W : WX) (Kx : KnowsX) (G : Knows) (ss : List Stmt) (m : Res S) (G' : S → Knows) : Prop := ∀ (I H : Hp) (σ : St) (D : Ends), G I H σ → PostB X W Kx I m G' D → wB X ss D σ H
def JR (X : Cx) (I0 H0 : Hp) (W : WX) (Kx : KnowsX) (G : Knows) (ss : List Stmt) (m : Res γ) (r : Ra γ) : Prop := ∀ (I H : Hp) (σ : St) (D : Ends), G I H σ → PostR X I0 H0 W Kx m r D → wB X ss D σ H
variable {X : Cx} {I0 H0 : Hp} {W : WX} {Kx : KnowsX} {G : Knows} {ctx : List (Option SF)} {mem : List MF} {e a b c o : Expr} {es bs : List Expr} {st : Stmt} {ss s1 s2 : List Stmt} {pos pos' : Pos} {n : Str} {ra : Ra α} {rr : Ra γ} {ma : Res α} {mc : Res Bool}
theorem JN.nil {s : S} {G' : S → Knows} (h : ∀ I H σ, G I H σ → G' s I H σ) : JN X W Kx G [] (.ok s) G' := fun I H σ D g p => b_nil (p I H σ (Same.refl _) (h _ _ _ g))
theorem JN.seq {T : Type} {m : Res S} {G1 : S → Knows} {f : S → Res T} {G2 : T → Knows} (j : J1 X W Kx G st m G1) (k : ∀ s, JN X W Kx (G1 s) ss (f s) G2) : JN X W Kx G (st :: ss) (m.bind f) G2 := fun I H σ D g p => by
  refine b_cons (j I H σ _ g ?_)
  cases m with
  | ok s => exact fun I' H' σ' si g' => k s I' H' σ' D g' (PostB.up p si)
  | err e => exact p
  | stuck => exact p
theorem JN.last {m : Res S} {G1 : S → Knows} (j : J1 X W Kx G st m G1) : JN X W Kx G [st] m G1 := fun I H σ D g p => by
  refine b_cons (j I H σ _ g ?_)
  cases m with
  | ok s => exact fun I' H' σ' si g' => b_nil (p I' H' σ' si g')
  | err e => exact p
  | stuck => exact p
theorem JR.seq {m : Res S} {G1 : S → Knows} {f : S → Res γ} (j : J1 X W Kx G st m G1) (k : ∀ s, JR X I0 H0 W Kx (G1 s) ss (f s) rr) : JR X I0 H0 W Kx G (st :: ss) (m.bind f) rr := fun I H σ D g p => by
  refine b_cons (j I H σ _ g ?_)
  cases m with
  | ok s => exact fun I' H' σ' _ g' => k s I' H' σ' D g' p
  | err e => exact p
  | stuck => exact p
theorem JR.ret {m : Res γ} (j : JE X I0 H0 W ctx mem e m rr) (hx : ∀ I H σ d, Stt I0 H0 ctx mem I H σ → Fr H0 d → Kx I H σ d) : JR X I0 H0 W Kx (Stt I0 H0 ctx mem) (.Return (some e) pos :: ss) m rr := fun I H σ D g p => by
  refine b_cons (s_ret (j I H σ _ g ?_))
  cases m with
  | ok y => exact fun I' H' v f r => p I' H' v (g.fm.trans f) r
  | err e => exact fun I' H' c d f x => p I' H' σ c d (hx _ _ _ _ (g.step f) (x.1.back g.fm.h)) x.2
  | stuck => exact p
theorem JR.ifR {m1 m2 : Res γ} (j : JT X I0 H0 W ctx mem c mc) (k1 : JR X I0 H0 W Kx (Stt I0 H0 ctx mem) s1 m1 rr) (k2 : JR X I0 H0 W Kx (Stt I0 H0 ctx mem) ss m2 rr) (hx : ∀ I H σ d, Stt I0 H0 ctx mem I H σ → Fr H0 d → Kx I H σ d) :
    JR X I0 H0 W Kx (Stt I0 H0 ctx mem) (.If c s1 [] pos :: ss) (mc.bind fun x => if x = true then m1 else m2) rr := fun I H σ D g p => by
  refine b_cons (s_if (j I H σ _ g ?_))
  cases mc with
  | ok x =>
    intro I1 H1 v f r y hy
    cases r; cases hy
    cases x with
    | true =>
      refine iteT (b_mono (k1 I1 H1 σ { D with nx := fun _ _ => False } (g.step f) ?_) (fun _ _ z => z.elim) (fun _ _ z => z) (fun _ _ z => z) (fun _ _ z => z))
      exact p
    | false => exact iteF (b_nil (k2 I1 H1 σ D (g.step f) p))
  | err e => exact fun I' H' c d f x => p I' H' σ c d (hx _ _ _ _ (g.step f) (x.1.back g.fm.h)) x.2
  | stuck => exact p
theorem J1.if {m1 m2 : Res S} {G' : S → Knows} (j : JT X I0 H0 W ctx mem c mc) (k1 : JN X W Kx (Stt I0 H0 ctx mem) s1 m1 G') (k2 : JN X W Kx (Stt I0 H0 ctx mem) s2 m2 G') (hx : ∀ I H σ d, Stt I0 H0 ctx mem I H σ → Fr H0 d → Kx I H σ d) :
    J1 X W Kx (Stt I0 H0 ctx mem) (.If c s1 s2 pos) (mc.bind fun x => if x = true then m1 else m2) G' := fun I H σ D g p => by
  refine s_if (j I H σ _ g ?_)
  cases mc with
  | ok x =>
    intro I1 H1 v f r y hy
    cases r; cases hy
    cases x with
    | true => exact iteT (k1 I1 H1 σ D (g.step f) (PostB.up p f.i))
    | false => exact iteF (k2 I1 H1 σ D (g.step f) (PostB.up p f.i))
  | err e => exact fun I' H' c d f x => p I' H' σ c d (hx _ _ _ _ (g.step f) (x.1.back g.fm.h)) x.2
  | stuck => exact p
theorem J1.set (i : Nat) {r : Rp α} [Mo r] {m : Res α} (j : JE X I0 H0 W ctx mem e m (rp r)) (hx : ∀ I H σ d, Stt I0 H0 ctx mem I H σ → Fr H0 d → Kx I H σ d) (hN : X.N.Nodup) (hi : X.N[i]? = some n := by rfl) (hl : Loc X.env.scope n := by first | exact Or.inl rfl | exact Or.inr rfl) (hs : swapsWith e (some (.Name n pos')) pos.line X.env = pure false := by rfl)
    (hf : X.fn n = true ∨ X.env.scope.names.lookup n = some .local := by first | exact .inl rfl | exact .inr rfl | assumption) : J1 X W Kx (Stt I0 H0 ctx mem) (.Assign [.Name n pos'] e pos) m (fun x => Stt I0 H0 (ctx.set i (some ⟨r, x⟩)) mem) := fun I H σ D g p => by
  refine s_set i (j I H σ _ g ?_) hN hi hl hs hf
  cases m with
  | ok x => exact fun I' H' v f h => p I' H' _ f.i ((g.step f).set i h)
  | err e => exact fun I' H' c d f x => p I' H' σ c d (hx _ _ _ _ (g.step f) (x.1.back g.fm.h)) x.2
  | stuck => exact p
theorem J1.expr {m : Res α} (j : JE X I0 H0 W ctx mem e m ra) (hx : ∀ I H σ d, Stt I0 H0 ctx mem I H σ → Fr H0 d → Kx I H σ d) (hs : swapsWith e none pos.line X.env = pure false := by rfl) : J1 X W Kx (Stt I0 H0 ctx mem) (.Expr e pos) m (fun _ => Stt I0 H0 ctx mem) := fun I H σ D g p => by
  refine s_expr (j I H σ _ g ?_) hs
  cases m with
  | ok x => exact fun I' H' v f h => p I' H' σ f.i (g.step f)
  | err e => exact fun I' H' c d f x => p I' H' σ c d (hx _ _ _ _ (g.step f) (x.1.back g.fm.h)) x.2
  | stuck => exact p
theorem JR.end {m : Res S} {G' : S → Knows} {f : S → Res γ} (j : JN X W Kx G ss m G') : True := trivial
end
end L2.Tr

namespace L2.Tr
open PySem PySem.Spec PyProof.Rows
section
variable {α β γ δ S : Type} {X : Cx} {W : WX}
def modI (x y : Int) : Res Int := Res.guard (y ≠ 0) (.ok (x.fmod y))
def fdivI (x y : Int) : Res Int := Res.guard (y ≠ 0 ∧ y.natAbs.log2 < 9000) (.ok (x.fdiv y))
def powI (x y : Int) : Res Int := Res.guard (0 ≤ y ∧ (y ≤ 1000000 ∧ x.natAbs < 2 ^ 64 ∨ (x.natAbs.log2 + 1) * y.toNat ≤ 2 ^ 27)) (.ok (x ^ y.toNat))
theorem post_guard {p : Prop} [Decidable p] {m : Res α} {K : PySem.W.Frag} {r : Ra α} {I H : Hp} {E : XK} {Q : VK} (h : PostE K (Res.guard p m) r I H E Q) : p ∧ PostE K m r I H E Q := by
  unfold Res.guard at h
  by_cases q : p
  · rw [if_pos q] at h; exact ⟨q, h⟩
  · rw [if_neg q] at h; exact False.elim h
theorem op_fdivV : OpR X (binaryOp .FloorDiv) (rI (fun _ j => j ≠ 0 ∧ j.natAbs.log2 < 9000) fun i j => .int (i.fdiv j)) := opI fun i j _ _ _ _ _ hc q => floordiv_int hc.1 q (.inl (PyProof.noPylong_of_log2 hc.2))
theorem opj_add : OpJ X W (binaryOp .Add) (rp rInt) (rp rInt) (fun x y => .ok (x + y)) (rp rInt) := fun I H σ Q u v x y s a b p => OpR.w op_add ⟨x, y, a, b, p I H _ (Fm.refl s) rfl⟩
theorem opj_sub : OpJ X W (binaryOp .Sub) (rp rInt) (rp rInt) (fun x y => .ok (x - y)) (rp rInt) := fun I H σ Q u v x y s a b p => OpR.w op_sub ⟨x, y, a, b, p I H _ (Fm.refl s) rfl⟩
theorem opj_mod : OpJ X W (binaryOp .Mod) (rp rInt) (rp rInt) (fun x y => modI x y) (rp rInt) := fun I H σ Q u v x y s a b p => OpR.w op_modN ⟨x, y, a, b, (post_guard p).1, (post_guard p).2 I H _ (Fm.refl s) rfl⟩
theorem opj_fdiv : OpJ X W (binaryOp .FloorDiv) (rp rInt) (rp rInt) (fun x y => fdivI x y) (rp rInt) := fun I H σ Q u v x y s a b p => OpR.w op_fdivV ⟨x, y, a, b, (post_guard p).1, (post_guard p).2 I H _ (Fm.refl s) rfl⟩
theorem op_powV : OpR X (binaryOp .Pow) (rI (fun x y => 0 ≤ y ∧ (y ≤ 1000000 ∧ x.natAbs < 2 ^ 64 ∨ (x.natAbs.log2 + 1) * y.toNat ≤ 2 ^ 27)) fun i j => .int (i ^ j.toNat)) := opI fun x y _ _ _ _ _ hc q => by
  rcases hc.2 with h | h
  · exact pow_int_small hc.1 h.1 h.2 q
  · refine pow_int hc.1 ?_ q
    have b : Builtin.Int.intBits x ≤ x.natAbs.log2 + 1 := by
      unfold Builtin.Int.intBits
      split <;> omega
    have e : y = (y.toNat : Int) := (Int.toNat_of_nonneg hc.1).symm
    rw [e]
    have := Nat.mul_le_mul_right y.toNat b
    have h2 : Builtin.Int.intBits x * y.toNat ≤ 2 ^ 27 := Nat.le_trans this h
    exact_mod_cast h2
theorem opj_pow : OpJ X W (binaryOp .Pow) (rp rInt) (rp rInt) (fun x y => powI x y) (rp rInt) := fun I H σ Q u v x y s a b p => OpR.w op_powV ⟨x, y, a, b, (post_guard p).1, (post_guard p).2 I H _ (Fm.refl s) rfl⟩
theorem opj_lt : OpJ X W (compareOp .Lt) (rp rInt) (rp rInt) (fun x y => .ok (decide (x < y))) (rp rBl) := fun I H σ Q u v x y s a b p => OpR.w op_lt ⟨x, y, a, b, p I H _ (Fm.refl s) rfl⟩
theorem decV {a b : Int} : decide (V.int a = V.int b) = decide (a = b) := by by_cases h : a = b <;> simp [h]
theorem opj_eq : OpJ X W (compareOp .Eq) (rp rInt) (rp rInt) (fun x y => .ok (decide (x = y))) (rp rBl) := fun I H σ Q u v x y s a b p => by
  cases a; cases b
  exact OpR.w op_eq ⟨rfl, p I H _ (Fm.refl s) (by rw [decV]; rfl)⟩
theorem opj_ne : OpJ X W (compareOp .NotEq) (rp rInt) (rp rInt) (fun x y => .ok (!decide (x = y))) (rp rBl) := fun I H σ Q u v x y s a b p => by
  cases a; cases b
  exact OpR.w op_ne ⟨rfl, p I H _ (Fm.refl s) (by rw [decV]; rfl)⟩
theorem unj_neg : UnJ X W (unaryOp .USub) (rp rInt) (fun x => .ok (-x)) (rp rInt) := fun I H σ Q u x s a p => UnR.w un_neg ⟨x, a, p I H _ (Fm.refl s) rfl⟩
abbrev R1 (r : Ra α) := aCons r aNil
abbrev R2' (r : Ra α) (r' : Ra β) := aCons r (aCons r' aNil)
theorem cj_abs : CallJ X W (.builtin "abs") (R1 (rp rInt)) (fun d => .ok (if d.1 < 0 then -d.1 else d.1)) (rp rInt) := fun I H σ Q vs x s a p => by
  obtain ⟨v, ws, rfl, h, rfl⟩ := a
  exact CallR.w call_abs ⟨x.1, by rw [show v = _ from h], p I H _ (Fm.refl s) rfl⟩
theorem cj_int : CallJ X W (.type "int") (R1 (rp rInt)) (fun d => .ok d.1) (rp rInt) := fun I H σ Q vs x s a p => by
  obtain ⟨v, ws, rfl, h, rfl⟩ := a
  exact CallR.w call_int1 (.inl ⟨x.1, by rw [show v = _ from h], p I H _ (Fm.refl s) rfl⟩)
theorem cj_intB : CallJ X W (.type "int") (R1 (rp rBl)) (fun d => .ok (if d.1 = true then 1 else 0)) (rp rInt) := fun I H σ Q vs x s a p => by
  obtain ⟨v, ws, rfl, h, rfl⟩ := a
  exact CallR.w call_int1 (.inr ⟨x.1, by rw [show v = _ from h], p I H _ (Fm.refl s) rfl⟩)
theorem cj_len {r : Ra α} : CallJ X W (.builtin "len") (R1 (rdL X.K r)) (fun d => .ok (d.1.length : Int)) (rp rInt) := fun I H σ Q vs x s a p => by
  obtain ⟨v, ws, rfl, ⟨l, vs, rfl, hl, pr⟩, rfl⟩ := a
  exact CallR.w call_len ⟨_, vs.length, rfl, .inl ⟨vs, hl, rfl⟩, by rw [Paired.length pr]; exact p I H _ (Fm.refl s) rfl⟩

theorem rL_rd {r : Rp α} {K : PySem.W.Frag} {I H : Hp} {v : V} {xs : List α} (s : Same I H) (h : rL r I v xs) : rdL K (rp r) I H v xs := by
  obtain ⟨l, vs, rfl, e, p⟩ := h
  exact ⟨l, vs, rfl, SqL.of (s _ _ e), p⟩
def atM (xs : List α) (i : Int) : Res α := match atI xs i with
  | some x => .ok x
  | none => .stuck
theorem paired_get {F : α → β → Prop} : ∀ {xs : List α} {ys : List β} {i : Nat} {y : β}, Paired F xs ys → ys[i]? = some y → ∃ x, xs[i]? = some x ∧ F x y
  | _, _, _, _, .nil, e => by simp at e
  | _, _, 0, _, .cons r _, e => by simp at e; subst e; exact ⟨_, rfl, r⟩
  | _, _, i + 1, y, .cons _ t, e => by
    obtain ⟨u, h1, h2⟩ := paired_get (i := i) (y := y) t (by simpa using e)
    exact ⟨u, by simpa using h1, h2⟩
end
end L2.Tr

namespace L2.Tr
open PySem PySem.Spec PyProof.Rows
section
variable {α β γ δ S : Type} {X : Cx} {I0 H0 : Hp} {W : WX} {ctx : List (Option SF)} {mem : List MF} {e a b c o : Expr} {es bs : List Expr} {pos pos' : Pos} {n : Str} {ra : Ra α} {rb : Ra β} {rc : Ra γ} {ma : Res α} {mb : Res β}
theorem atI_pair {F : α → β → Prop} {xs : List α} {ys : List β} {i : Int} {y : β} (p : Paired F xs ys) (h : atI ys i = some y) : ∃ x, atI xs i = some x ∧ F x y := by
  unfold atI at h ⊢
  rw [Paired.length p]
  cases e : ixN ys.length i with
  | none => rw [e] at h; cases h
  | some j => rw [e] at h; exact paired_get p h
theorem JE.ix {r : Ra α} {m : Res (List α)} {mi : Res Int} [MoA r] (ja : JE X I0 H0 W ctx mem a m (rdL X.K r)) (jb : JE X I0 H0 W ctx mem b mi (rp rInt)) (hs : PlainIx b := by exact fun _ _ => rfl) :
    JE X I0 H0 W ctx mem (.Subscript a b pos) (m.bind fun xs => mi.bind fun i => atM xs i) r := fun I H σ Q st p => by
  refine PE.w (pe_ix ix_list pe_W pe_W hs) (ja I H σ _ st ?_)
  cases m with
  | ok xs =>
    intro I1 H1 u f1 r1
    refine jb I1 H1 σ _ (st.step f1) ?_
    have p1 := PostE.up p f1
    cases mi with
    | ok i =>
      intro I2 H2 v f2 r2
      obtain ⟨l, vs, rfl, hl, pr⟩ := MoA.up (r := rdL X.K r) f2.i f2.h r1
      have p2 : PostE X.K (atM xs i) r I2 H2 _ Q := PostE.up p1 f2
      unfold atM at p2
      cases e : atI xs i with
      | none => rw [e] at p2; exact p2.elim
      | some x =>
        rw [e] at p2
        obtain ⟨w, ew, hw⟩ := atI_pair pr e
        exact ⟨l, vs, i, w, rfl, r2, hl, ew, p2 I2 H2 w (Fm.refl f2.ih) hw⟩
    | err e => exact p1
    | stuck => exact p1
  | err e => exact p
  | stuck => exact p
def lR (n : Nat) (r : Ra α) : Hp → Hp → List V → List α → Prop := fun I H vs xs => vs.length = n ∧ Paired (r I H) vs xs
theorem JA.nilL {r : Ra α} : JA X I0 H0 W ctx mem [] (.ok []) (lR 0 r) := fun I H σ Q st p => w_nil (p I H [] (Fm.refl st.same) ⟨rfl, .nil⟩)
theorem JA.consL {k : Nat} {r : Ra α} {m : Res (List α)} [MoA r] (j : JE X I0 H0 W ctx mem e ma r) (jk : JA X I0 H0 W ctx mem es m (lR k r)) (hs : starEach (e :: es) X.env = (false, eval e X.env) :: starEach es X.env := by rfl) :
    JA X I0 H0 W ctx mem (e :: es) (ma.bind fun x => m.bind fun y => .ok (x :: y)) (lR (k + 1) r) := fun I H σ Q st p => by
  refine Tr.w_cons (j I H σ _ st ?_) hs
  cases ma with
  | ok x =>
    intro I1 H1 v f1 r1
    refine jk I1 H1 σ _ (st.step f1) ?_
    cases m with
    | ok y => exact fun I2 H2 vs f2 r2 => p I2 H2 _ (f1.trans f2) ⟨by rw [List.length_cons, r2.1], .cons (MoA.up f2.i f2.h r1) r2.2⟩
    | err e => exact fun I2 H2 c d f2 x => p I2 H2 c d (f1.trans f2) ⟨x.1.back f1.h, x.2⟩
    | stuck => exact p
  | err e => exact p
  | stuck => exact p
theorem JE.rd {r : Rp α} {m : Res (List α)} (j : JE X I0 H0 W ctx mem e m (rp (rL r))) : JE X I0 H0 W ctx mem e m (rdL X.K (rp r)) := j.co fun _ _ _ _ s h => rL_rd s h
theorem eqvAll_ints : ∀ xs ys : List Int, PyData.eqvAll (xs.map .int) (ys.map .int) = decide (xs = ys)
  | [], [] => rfl
  | [], _ :: _ => rfl
  | _ :: _, [] => rfl
  | x :: xs, y :: ys => by
    show (PyData.eqv (.int x) (.int y) && PyData.eqvAll (xs.map .int) (ys.map .int)) = _
    rw [eqvAll_ints xs ys]
    show ((x == y) && _) = _
    by_cases h : x = y <;> by_cases h' : xs = ys <;> simp [h, h']
theorem dpAll_ints {K : PySem.W.Frag} {I H : Hp} : ∀ {vs : List V} {xs : List Int}, Paired (rp rInt I H) vs xs → DpAll K H vs (xs.map .int)
  | _, _, .nil => .nil
  | _, _, .cons h t => .cons (by rw [show _ = V.int _ from h]; exact .int _) (dpAll_ints t)
theorem shaped_ints (xs : List Int) : SeqAt.shaped (.list (xs.map .int)) = true := by
  have h1 : ∀ xs : List Int, PyData.canLayAll0 (xs.map .int) = true := fun xs => by
    induction xs with
    | nil => rfl
    | cons x xs ih => show (true && _) = true; rw [ih]; rfl
  have h2 : PyData.depth (.list (xs.map .int)) ≤ 64 := by
    have : ∀ xs : List Int, PyData.depthAll (xs.map .int) ≤ 1 := fun xs => by
      induction xs with
      | nil => exact Nat.zero_le _
      | cons x xs ih =>
        show max _ _ ≤ 1
        exact Nat.max_le.mpr ⟨by first | exact Nat.le_refl _ | exact Nat.zero_le _ | (simp [PyData.depth]), ih⟩
    have := this xs
    first | (show _ + 1 ≤ 64; omega) | (simp [PyData.depth]; omega)
  unfold SeqAt.shaped
  rw [decide_eq_true h2]
  show (PyData.canLayAll0 _ && true) = true
  rw [h1]; rfl
end
end L2.Tr

namespace L2.Tr
open PySem PySem.Spec PyProof.Rows
section
variable {α β γ δ S : Type} {X : Cx} {I0 H0 : Hp} {W : WX} {ctx : List (Option SF)} {mem : List MF} {e a b c o : Expr} {es bs : List Expr} {pos pos' : Pos} {n : Str} {ra : Ra α} {rb : Ra β} {rc : Ra γ} {ma : Res α} {mb : Res β}
theorem opj_neL (hu : X.A.units + 64 < cLine) : OpJ X W (compareOp .NotEq) (rdL X.K (rp rInt)) (rdL X.K (rp rInt)) (fun x y => .ok (!decide (x = y))) (rp rBl) := fun I H σ Q u v x y s ⟨l, vs, e1, h1, p1⟩ ⟨l', vs', e2, h2, p2⟩ p => by
  subst e1; subst e2
  exact OpR.w (op_neD hu) ⟨.list (x.map .int), .list (y.map .int), .lst h1 (dpAll_ints p1), .lst h2 (dpAll_ints p2), shaped_ints _, shaped_ints _, p I H _ (Fm.refl s) (by show V.bl (!PyData.eqvAll _ _) = _; rw [eqvAll_ints])⟩

structure OCls (K : PySem.W.Frag) (C : Addr) : Prop where
  cl : Cls K C
  sf : PySem.W.selfFirst K C = true
  ca : PySem.W.findIn K (.ref C) "__class__" = some (some (.builtin "object.__class__"))
  cn : PySem.W.specialIn K (.builtin "object.__class__") "__get__" = some (some (.builtin "getset_descriptor.__get__"))
  ct : PySem.W.takesIn K (.builtin "object.__class__") = some true
  cm : PySem.W.mroIn K C (.type "object") = some true
  ni : PySem.W.subIn K (.ref C) (.type "int") = some false
  in_ : PySem.W.subIn K (.type "int") (.ref C) = some false
  ne : PySem.W.findIn K (.ref C) "__ne__" = some (some (.builtin "object.__ne__"))
structure OMet (K : PySem.W.Frag) (C : Addr) (m : Str) (f : Addr) : Prop where
  at_ : PySem.W.findIn K (.ref C) m = some (some (.ref f))
  fn : PySem.W.isFn K (.ref f) = true
def InsR (C : Addr) (r : Ra α) : Prop := ∀ I H v x, Same I H → r I H v x → ∃ a dx fs, v = .ref a ∧ H a = some (.ins C dx fs)
theorem insAt {pins : List (Addr × Obj)} {σ : St} {H : Hp} {s : Shared} {x C dx : Addr} {fs : List (Str × V)} (I : Inv X pins σ H s) (h : H x = some (.ins C dx fs)) : ∃ od, PySem.W.InstAt s.heap x (PySem.W.instObj C dx) C (some od) := by
  obtain ⟨mA, O, _⟩ := ins_get I.hok h
  obtain ⟨od, J, _⟩ := O.look
  exact ⟨od, J⟩
theorem run_W1 {k : Nat} {f : Addr} {sp : Sp} {vs : List V} {H : Hp} {σ : St} {Q : VK} (F : FnR X.prog X.w X.K X.mg X.base (L2N.CX X.prog X.w) k f sp) (hr : Room (k + 1) X.A) (tk : L2N.Takes X W) (h : sp vs H Q fun cls d H' => W cls d σ H') {pins : List (Addr × Obj)} {s : Shared} {us : List Value} (I : Inv X pins σ H s) (r : Vals vs us) :
    wpAny (model X.prog X.w) X.A.in1 (call (.ref f) us) (EP X pins σ Q) X.xe s := by
  refine wpAny_call (codeAny_mono (F X.A.in1 X.stack s H us vs Q _ hr.in1 I.env0.in1 r h) fun r s' hq => ?_)
  cases r with
  | error e => exact L2N.passAt tk σ pins H s e s' I hq
  | ok fl =>
    cases fl with
    | ret u => exact I.after hq
    | next => exact False.elim hq
    | brk => exact False.elim hq
    | cont => exact False.elim hq
end
end L2.Tr

namespace L2.Tr
open PySem PySem.Spec PyProof.Rows
section
variable {α β γ δ S : Type} {X : Cx} {I0 H0 : Hp} {W : WX} {Kx : KnowsX} {G : Knows} {ctx : List (Option SF)} {mem : List MF} {e a b c o : Expr} {es bs : List Expr} {st : Stmt} {ss s1 s2 : List Stmt} {pos pos' : Pos} {n : Str} {ra : Ra α} {rb : Ra β} {rc : Ra γ} {ma : Res α} {mb : Res β}

def spF (K : PySem.W.Frag) (R : Hp → Hp → List V → δ → Prop) (m : δ → Res γ) (r : Ra γ) : Sp := fun vs H Q E => ∃ I d, Same I H ∧ R I H vs d ∧ PostE K (m d) r I H E Q
theorem cj_of {k : Nat} {f : Addr} {R : Hp → Hp → List V → δ → Prop} {m : δ → Res γ} (F : FnR X.prog X.w X.K X.mg X.base (L2N.CX X.prog X.w) k f (spF X.K R m rc)) (hr : Room k X.A) (tk : L2N.Takes X W) : CallJ X W (.ref f) R m rc := fun I H σ Q vs d s h p => run_W F hr tk ⟨I, d, s, h, p⟩
theorem opj_neO {k : Nat} {C f : Addr} {g : α × β × Unit → Res Bool} (hc : OCls X.K C) (hm : OMet X.K C "__eq__" f) (hr : Room (k + 1) X.A) (tk : L2N.Takes X W) (hn : PySem.W.notFirst X.K C (.ref C) = true) (ia : InsR C ra) (ib : InsR C rb)
    (F : FnR X.prog X.w X.K X.mg X.base (L2N.CX X.prog X.w) k f (spF X.K (R2' ra rb) g (rp rBl))) : OpJ X W (compareOp .NotEq) ra rb (fun x y => (g (x, y, ())).bind fun z => .ok (!z)) (rp rBl) := fun I H σ Q u v x y s a b p pins sh uu vv Iv ru rv => by
  obtain ⟨au, dx, fs, rfl, hu'⟩ := ia I H u x s a
  obtain ⟨av, dy, gs, rfl, hv⟩ := ib I H v y s b
  cases (show uu = Value.ref au from ru)
  cases (show vv = Value.ref av from rv)
  obtain ⟨od, J⟩ := insAt Iv hu'
  obtain ⟨od', J'⟩ := insAt Iv hv
  show wpAny _ _ (richCompare .NotEq _ _) _ _ _
  have hu1 : X.A.in1.units < cLine := by have := hr.un; show X.A.units + 1 < _; omega
  refine PySem.W.tr_ne hu1 hr.units0 Iv.kIn J J'.type hn hc.cm hc.ne hm.at_ hm.fn (thn (run_W1 (vs := [.ref au, .ref av]) (Q := fun z H' => ∃ k, z = .bl k ∧ Q (.bl (!k)) H') F hr tk ⟨I, (x, y, ()), s, ⟨_, _, rfl, a, _, _, rfl, b, rfl⟩, ?_⟩ Iv (.cons rfl (.cons rfl .nil))) fun w s' ⟨z, H', I', rz, k, ez, q⟩ => ?_)
  · show PostE _ (g (x, y, ())) _ _ _ _ _
    revert p
    show PostE _ ((g (x, y, ())).bind _) _ _ _ _ _ → _
    generalize g (x, y, ()) = z
    intro p
    cases z with
    | ok k => exact fun I' H' v f r => ⟨k, r, p I' H' _ f rfl⟩
    | err e => exact p
    | stuck => exact p
  · subst ez
    cases (show w = Value.bool k from rz)
    exact ⟨k, rfl, .bl (!k), H', I', rfl, q⟩
def TyR (K : PySem.W.Frag) (r : Ra α) (u : Value) (g : α → Bool) : Prop := ∀ I H v x, Same I H → r I H v x → ∃ t, TyX K H v t ∧ PySem.W.kitOne K t u = some (g x)
theorem JE.isi {u : Value} {cv : V} {g : α → Bool} [MoA ra] (j : JE X I0 H0 W ctx mem a ma ra) (jc : ∀ σ H Q, Q cv H → wE X b σ H Q) (hc : ClsV cv u) (ty : TyR X.K ra u g) (hm : X.mg "isinstance" = none) (hg : Gl X "isinstance" := by rfl)
    (hs : starEach [a, b] X.env = (false, eval a X.env) :: starEach [b] X.env := by rfl) (hs2 : starEach [b] X.env = (false, eval b X.env) :: starEach [] X.env := by rfl) (hpl : (backTo pos (starEach [b] X.env)).any (·.1) = false := by rfl) :
    JE X I0 H0 W ctx mem (.Call (.Name "isinstance" pos') [a, b] [] pos) (ma.bind fun x => .ok (g x)) (rp rBl) := fun I H σ Q st p => by
  refine w_callB (id := "isinstance") (Tr.w_cons (j I H σ _ st ?_) hs) hm (by decide +kernel) hg (by decide) (by decide) hs hpl
  cases ma with
  | ok x =>
    intro I1 H1 v f1 r1
    refine Tr.w_cons (jc σ H1 _ (w_nil ?_)) hs2
    obtain ⟨t, ty1, k⟩ := ty I1 H1 v x f1.ih r1
    exact CallR.w call_isi ⟨v, cv, t, u, g x, rfl, hc, ty1, k, p I1 H1 _ f1 rfl⟩
  | err e => exact p
  | stuck => exact p
structure ExcP (K : PySem.W.Frag) (mg : Str → Option Value) (x : Str) : Prop where
  ex : PySem.W.excIn K (He.ga K x) He.veBase "ValueError.__new__" = true
  kp : PySem.W.keepIn K (.ref (He.ga K x)) = true
  bs : PySem.W.subIn K (.ref (He.ga K x)) (.type "BaseException") = some true
  ty : PySem.W.typeIn K (.ref (He.ga K x)) = some (.type "type")
  gl : mg x = some (.ref (He.ga K x))
def whileM (c : S → Res Bool) (f : S → Res S) : Nat → S → Res S
  | 0, _ => .stuck
  | n + 1, s => (c s).bind fun b => if b = true then (f s).bind fun s' => whileM c f n s' else .ok s
theorem J1.while {fuel : Nat} {s0 : S} {cx : S → List (Option SF)} {me : S → List MF} {mc : S → Res Bool} {mf : S → Res S} (hp : PassesOwn (model X.prog X.w) X.A X.env X.xe) (jc : ∀ s, JT X I0 H0 W (cx s) (me s) c (mc s)) (jb : ∀ s, JN X W Kx (Stt I0 H0 (cx s) (me s)) ss (mf s) fun s' => Stt I0 H0 (cx s') (me s'))
    (hx : ∀ s I H σ d, Stt I0 H0 (cx s) (me s) I H σ → Fr H0 d → Kx I H σ d) : J1 X W Kx (Stt I0 H0 (cx s0) (me s0)) (.While c ss [] pos) (whileM mc mf fuel s0) (fun s => Stt I0 H0 (cx s) (me s)) := fun I H σ D g p => by
  refine PS.w (ps_while hp pt_W pss_W) ⟨fun k σ' H' => ∃ I' s, Stt I0 H0 (cx s) (me s) I' H' σ' ∧ PostB X W Kx I' (whileM mc mf k s) (fun s => Stt I0 H0 (cx s) (me s)) D, ⟨fuel, I, s0, g, p⟩, ?_⟩
  rintro k σ' H' ⟨I', s, g', p'⟩
  cases k with
  | zero => exact p'.elim
  | succ k =>
    refine jc s I' H' σ' _ g' ?_
    have p2 : PostB X W Kx I' ((mc s).bind fun b => if b = true then (mf s).bind fun s' => whileM mc mf k s' else .ok s) _ D := p'
    revert p2
    generalize mc s = z
    intro p2
    cases z with
    | ok x =>
      intro I1 H1 v f r y hy
      cases r; cases hy
      cases x with
      | true =>
        refine iteT ⟨fun σ2 H2 => ∃ I2 s', Stt I0 H0 (cx s') (me s') I2 H2 σ2 ∧ PostB X W Kx I2 (whileM mc mf k s') (fun s => Stt I0 H0 (cx s) (me s)) D, fun σ2 H2 h => ⟨k, Nat.lt_succ_self _, h⟩, ?_⟩
        refine jb s I1 H1 σ' _ (g'.step f) ?_
        have p3 : PostB X W Kx I1 ((mf s).bind fun s' => whileM mc mf k s') _ D := PostB.up p2 f.i
        revert p3
        generalize mf s = z
        intro p3
        cases z with
        | ok s' => exact fun I2 H2 σ2 si g2 => ⟨I2, s', g2, PostB.up p3 si⟩
        | err e => exact p3
        | stuck => exact p3
      | false => exact iteF (p2 I1 H1 σ' f.i (g'.step f))
    | err e => exact fun I' H' c d f x => p2 I' H' σ' c d (hx _ _ _ _ _ (g'.step f) (x.1.back g'.fm.h)) x.2
    | stuck => exact p2.elim
theorem J1.par (i j : Nat) {x y : Str} {r1 : Rp α} {r2 : Rp β} [Mo r1] [mo : Mo r2] {px py pt : Pos} {kt k2 pt2} (ja : JE X I0 H0 W ctx mem a ma (rp r1)) (jb : JE X I0 H0 W ctx mem b mb (rp r2)) (hx : ∀ I H σ d, Stt I0 H0 ctx mem I H σ → Fr H0 d → Kx I H σ d)
    (hN : X.N.Nodup) (hc : X.calm = true := by rfl) (hi : X.N[i]? = some x := by rfl) (hj : X.N[j]? = some y := by rfl) (hij : i ≠ j := by decide) (hlx : X.env.scope.names.lookup x = some .local := by rfl) (hly : X.env.scope.names.lookup y = some .local := by rfl)
    (hw : swappedStores [.Tuple [.Name x px, .Name y py] kt pt] (.Tuple [a, b] k2 pt2) X.env = pure (some [x, y]) := by rfl)
    (hs : swapsWithSole [.Tuple [.Name x px, .Name y py] kt pt] (.Tuple [a, b] k2 pt2) pos.line X.env = pure false := by rfl)
    (e1 : starEach [a, b] X.env = (false, eval a X.env) :: starEach [b] X.env := by rfl) (e2 : starEach [b] X.env = (false, eval b X.env) :: starEach [] X.env := by rfl) :
    J1 X W Kx (Stt I0 H0 ctx mem) (.Assign [.Tuple [.Name x px, .Name y py] kt pt] (.Tuple [a, b] k2 pt2) pos) (ma.bind fun u => mb.bind fun v => .ok (u, v)) (fun s => Stt I0 H0 ((ctx.set i (some ⟨r1, s.1⟩)).set j (some ⟨r2, s.2⟩)) mem) := fun I H σ D g p => by
  refine PS.w (ps_par hc hN hi hj hij hlx hly pa_W hw hs) (Tr.w_cons (ja I H σ _ g ?_) e1)
  cases ma with
  | ok u =>
    intro I1 H1 v1 f1 h1
    refine Tr.w_cons (jb I1 H1 σ _ (g.step f1) ?_) e2
    cases mb with
    | ok v => exact fun I2 H2 v2 f2 h2 => w_nil ⟨v1, v2, rfl, p I2 H2 _ (f1.i.trans f2.i) ((((g.step f1).step f2).set i (Mo.up f2.i h1)).set j h2)⟩
    | err e => exact fun I' H' c d f x => p I' H' σ c d (hx _ _ _ _ ((g.step f1).step f) (x.1.back (g.step f1).fm.h)) x.2
    | stuck => exact p.elim
  | err e => exact fun I' H' c d f x => p I' H' σ c d (hx _ _ _ _ (g.step f) (x.1.back g.fm.h)) x.2
  | stuck => exact p.elim
end
section
variable {γ δ : Type} {P : Program} {w : World} {K : PySem.W.Frag} {mg : Str → Option Value} {base : Heap} {x qual : Str} {params : Arguments} {body : List Stmt} {scope : Scope} {dvs : List V} {kws : List (Str × V)} {f : Addr} {fd : FuncData} {N ps : List Str} {k : Nat} {R : Hp → Hp → List V → δ → Prop} {m : δ → Res γ} {r : Ra γ}
abbrev bx (P : Program) (w : World) (K : PySem.W.Frag) (mg : Str → Option Value) (base : Heap) (N : List Str) (qual : Str) (scope : Scope) (f : Addr) (cdv : Value) (A : Around) (outer : List Env) (s : Shared) (H : Hp) (E : XK) : Cx := cxOf (L2N.CX P w) P w K mg base N qual scope f cdv A outer s H E
abbrev PsO9 (P : Program) (w : World) (X : Cx) : Prop := PassesOwn (model P w) X.A X.env X.xe
abbrev bW (E : XK) : WX := fun cls d _ H => E cls d H
abbrev bK (I0 H0 : Hp) : KnowsX := fun I H _ d => Fm I0 H0 I H ∧ Fr H0 d
theorem FunD.fn (F : FunD K x qual params body scope dvs kws f fd) (S : FnScope N ps scope) (len : ∀ I H vs d, R I H vs d → vs.length = ps.length)
    (hb : ∀ (cdv : Value) (A : Around) (outer : List Env) (s : Shared) (I0 H0 : Hp) (E : XK) (vs : List V) (d : δ), Room k (A.deeper (envOfC qual scope s.heap.objs.size f cdv)) → Same I0 H0 → R I0 H0 vs d →
      ∃ G : Knows, G I0 H0 (start N vs) ∧ JR (bx P w K mg base N qual scope f cdv A outer s H0 E) I0 H0 (bW E) (bK I0 H0) G body (m d) r) : FnOk P w K mg base (L2N.CX P w) (k + 1) f fd ps (spF K R m r) := by
  refine F.ok S (fun vs H Q E ⟨I, d, _, h, _⟩ => len I H vs d h) fun cdv A outer s H vs Q E hr ⟨I, d, sm, h, p⟩ => ⟨_, pss_W, ?_⟩
  obtain ⟨G, g, j⟩ := hb cdv A outer s I H E vs d hr sm h
  refine j I H _ _ g ?_
  revert p
  show PostE K (m d) r I H E Q → PostR _ _ _ _ _ (m d) _ _
  generalize m d = z
  intro p
  cases z with
  | ok y => exact p
  | err e => exact fun I' H' _ c d f x => p I' H' c d f.1 ⟨f.2, x⟩
  | stuck => exact p
end
end L2.Tr

namespace L2.Tr
open PySem PySem.Spec PyProof.Rows
section
variable {α β γ δ S : Type} {X : Cx} {I0 H0 : Hp} {W : WX} {Kx : KnowsX} {G : Knows} {ctx : List (Option SF)} {mem : List MF} {e a b c o : Expr} {es bs : List Expr} {st : Stmt} {ss s1 s2 : List Stmt} {pos pos' : Pos} {n : Str} {ra : Ra α} {rb : Ra β} {rc : Ra γ} {ma : Res α} {mb : Res β}
def rRef (x : Addr) : Rp Unit := fun _ v _ => v = .ref x
instance {x : Addr} : Mo (rRef x) := ⟨fun _ h => h⟩
def putG (f : Str) (s : SF) : List (Str × SF) → List (Str × SF)
  | [] => [(f, s)]
  | q :: gs => if q.1 = f then (f, s) :: gs else q :: putG f s gs
theorem FldR.put {I : Hp} {f : Str} {v : V} {s : SF} (h : s.r I v s.x) : ∀ {fs : List (Str × V)} {gs : List (Str × SF)}, FldR I fs gs → FldR I (putF f v fs) (putG f s gs)
  | [], [], _ => ⟨rfl, h, True.intro⟩
  | p :: fs, q :: gs, ⟨a, b, c⟩ => by
    show FldR I (if p.1 = f then _ else _) (if q.1 = f then _ else _)
    rw [← a]
    by_cases e : p.1 = f
    · rw [if_pos e, if_pos e]; exact ⟨e, h, c⟩
    · rw [if_neg e, if_neg e]; exact ⟨a, b, FldR.put h c⟩
  | [], _ :: _, h => h.elim
  | _ :: _, [], h => h.elim
theorem FldR.length {I : Hp} : ∀ {fs : List (Str × V)} {gs : List (Str × SF)}, FldR I fs gs → fs.length = gs.length
  | [], [], _ => rfl
  | _ :: _, _ :: _, ⟨_, _, c⟩ => congrArg Nat.succ (FldR.length c)
  | [], _ :: _, h => h.elim
  | _ :: _, [], h => h.elim
theorem Regs.split {I H : Hp} : ∀ {mem : List MF} {fps : List (List Addr)} {j : Nat} {c : MF}, Regs I H mem fps → mem[j]? = some c → ∃ M1 M2 A fp B, mem = M1 ++ c :: M2 ∧ fps = A ++ fp :: B ∧ M1.length = j ∧ Regs I H M1 A ∧ c.Q I H fp ∧ Regs I H M2 B
  | [], _, _, _, _, e => by simp at e
  | d :: mem, fp :: fps, 0, c, ⟨a, b⟩, e => by
    have : d = c := by simpa using e
    subst this
    exact ⟨[], mem, [], fp, fps, rfl, rfl, rfl, True.intro, a, b⟩
  | d :: mem, fp :: fps, j + 1, c, ⟨a, b⟩, e => by
    have e' : mem[j]? = some c := by simpa using e
    obtain ⟨M1, M2, A, fq, B, e1, e2, e3, h1, h2, h3⟩ := Regs.split b e'
    exact ⟨d :: M1, M2, fp :: A, fq, B, by rw [e1]; rfl, by rw [e2]; rfl, by rw [List.length_cons, e3], ⟨a, h1⟩, h2, h3⟩
  | _ :: _, [], _, _, h, _ => h.elim
theorem Regs.join {I H : Hp} : ∀ {M1 M2 : List MF} {A B : List (List Addr)}, Regs I H M1 A → Regs I H M2 B → Regs I H (M1 ++ M2) (A ++ B)
  | [], _, [], _, _, h => h
  | _ :: _, _, _ :: _, _, ⟨a, b⟩, h => ⟨a, Regs.join b h⟩
  | [], _, _ :: _, _, h, _ => h.elim
  | _ :: _, _, [], _, h, _ => h.elim
theorem set_mid {α : Type} {M1 M2 : List α} {c c' : α} {j : Nat} (h : M1.length = j) : (M1 ++ c :: M2).set j c' = M1 ++ c' :: M2 := by
  subst h; induction M1 with
  | nil => rfl
  | cons d M ih => rw [List.cons_append, List.length_cons, List.set_cons_succ, ih]; rfl
theorem erase_mid {α : Type} {M1 M2 : List α} {c : α} {j : Nat} (h : M1.length = j) : (M1 ++ c :: M2).eraseIdx j = M1 ++ M2 := by
  subst h; induction M1 with
  | nil => rfl
  | cons d M ih => rw [List.cons_append, List.length_cons, List.eraseIdx_cons_succ, ih]; rfl
theorem flat_mid {A B : List (List Addr)} {fp : List Addr} : (A ++ fp :: B).flatten = A.flatten ++ (fp ++ B.flatten) := by rw [List.flatten_append, List.flatten_cons]
def rm (H : Hp) (fp : List Addr) : Hp := fun a => if a ∈ fp then none else H a
theorem rm_in {H : Hp} {fp : List Addr} {a : Addr} (h : a ∈ fp) : rm H fp a = none := if_pos h
theorem rm_out {H : Hp} {fp : List Addr} {a : Addr} (h : a ∉ fp) : rm H fp a = H a := if_neg h
theorem Stt.change {I0 H0 I H : Hp} {c : MF} {σ : St} {j : Nat} (s : Stt I0 H0 ctx mem I H σ) (hj : mem[j]? = some c) : ∃ fp, c.Q I H fp ∧ fp.Nodup ∧ (∀ a, a ∈ fp → H0 a = none ∧ I a = none ∧ H a ≠ none) ∧
    ∀ (I' H' : Hp) (c' : MF) (fp' : List Addr), Fm I (rm H fp) I' H' → fp'.Nodup → (∀ a, a ∈ fp' → rm H fp a = none ∧ I' a = none ∧ H' a ≠ none) → c'.Q I' H' fp' → Stt I0 H0 ctx (mem.set j c') I' H' σ := by
  obtain ⟨fps, rg, nd, k⟩ := s.me
  obtain ⟨M1, M2, A, fp, B, e1, e2, e3, h1, h2, h3⟩ := rg.split hj
  subst e1; subst e2
  rw [flat_mid] at nd k
  have ndA := List.nodup_append.mp nd
  have ndB := List.nodup_append.mp ndA.2.1
  have kf : ∀ a, a ∈ fp → H0 a = none ∧ I a = none ∧ H a ≠ none := fun a ha => k a (List.mem_append_right _ (List.mem_append_left _ ha))
  refine ⟨fp, h2, ndB.1, kf, fun I' H' c' fp' f nd' k' q' => ?_⟩
  have oth : ∀ a, a ∈ A.flatten ∨ a ∈ B.flatten → a ∉ fp ∧ H0 a = none ∧ I a = none ∧ H a ≠ none := fun a ha => by
    rcases ha with ha | ha
    · exact ⟨fun z => ndA.2.2 a ha a (List.mem_append_left _ z) rfl, k a (List.mem_append_left _ ha)⟩
    · exact ⟨fun z => ndB.2.2 a z a ha rfl, k a (List.mem_append_right _ (List.mem_append_right _ ha))⟩
  have stay : ∀ a, a ∈ A.flatten ∨ a ∈ B.flatten → H' a = H a := fun a ha => by
    obtain ⟨n, _, _, z⟩ := oth a ha
    cases e : H a with
    | none => exact absurd e z
    | some o => exact f.h a o (by rw [rm_out n]; exact e)
  have out : ∀ a, a ∈ fp' → ¬ (a ∈ A.flatten ∨ a ∈ B.flatten) := fun a ha z => by
    obtain ⟨n, _, _, y⟩ := oth a z
    have := (k' a ha).1
    rw [rm_out n] at this
    exact y this
  have hm : ∀ a, H0 a ≠ none → a ∉ fp := fun a z y => z (kf a y).1
  refine ⟨⟨s.fm.i.trans f.i, fun b u e => f.h b u (by rw [rm_out (hm b (by rw [e]; intro z; cases z))]; exact s.fm.h b u e), f.ih, fun l e n => f.mu l (s.fm.mu l e n) ?_⟩, s.len, fun i sf e => ?_, A ++ fp' :: B, ?_, ?_, ?_⟩
  · rw [rm_out (hm l n)]
    cases z : H0 l with
    | none => exact absurd z n
    | some o => rw [s.fm.h l o z]; intro y; cases y
  · obtain ⟨v, e1, q⟩ := s.sl i sf e
    exact ⟨v, e1, sf.mo.up f.i q⟩
  · rw [set_mid e3]
    exact (h1.up f.i fun a ha => stay a (.inl ha)).join ⟨q', h3.up f.i fun a ha => stay a (.inr ha)⟩
  · rw [flat_mid]
    refine List.nodup_append.mpr ⟨ndA.1, List.nodup_append.mpr ⟨nd', ndB.2.1, fun a ha b hb e => out a ha (.inr (e ▸ hb))⟩, fun a ha b hb e => ?_⟩
    subst e
    rcases List.mem_append.mp hb with z | z
    · exact out a z (.inl ha)
    · exact ndA.2.2 a ha a (List.mem_append_right _ z) rfl
  · rw [flat_mid]
    have go : ∀ a, a ∈ A.flatten ∨ a ∈ B.flatten → H0 a = none ∧ I' a = none ∧ H' a ≠ none := fun a ha => by
      obtain ⟨n, x, y, z⟩ := oth a ha
      exact ⟨x, f.mu a y (by rw [rm_out n]; exact z), by rw [stay a ha]; exact z⟩
    intro a ha
    rcases List.mem_append.mp ha with z | z
    · exact go a (.inl z)
    · rcases List.mem_append.mp z with z | z
      · refine ⟨?_, (k' a z).2⟩
        cases e : H0 a with
        | none => rfl
        | some o =>
          have := (k' a z).1
          rw [rm_out (hm a (by rw [e]; intro y; cases y)), s.fm.h a o e] at this
          cases this
      · exact go a (.inr z)
theorem Fm.rmUpd {I H : Hp} {l : Addr} {o : HO} (s : Same I H) (hI : I l = none) : Fm I (rm H [l]) I (upd H l o) :=
  ⟨Same.refl _, fun b u e => by
    by_cases hb : b = l
    · subst hb; rw [rm_in (List.mem_singleton_self b)] at e; cases e
    · rw [rm_out (fun z => hb (List.mem_singleton.mp z))] at e; rw [upd_ne hb]; exact e, fun b u e => by
    have : b ≠ l := fun q => by rw [q, hI] at e; cases e
    rw [upd_ne this]; exact s b u e, fun _ e _ => e⟩
theorem Stt.cellAt {I0 H0 I H : Hp} {σ : St} {l : Addr} {c c' : MF} {o : HO} (s : Stt I0 H0 ctx mem I H σ) (j : Nat) (hj : mem[j]? = some c) (hc : ∀ {I H : Hp} {fp : List Addr}, c.Q I H fp → fp = [l]) (h : c'.Q I (upd H l o) [l]) :
    Stt I0 H0 ctx (mem.set j c') I (upd H l o) σ := by
  obtain ⟨fp, q, nd, k, go⟩ := s.change hj
  cases hc q
  obtain ⟨_, kI, _⟩ := k l (List.mem_singleton_self l)
  refine go I (upd H l o) _ [l] (Fm.rmUpd s.same kI) nd (fun a ha => ?_) h
  rw [List.mem_singleton.mp ha]
  exact ⟨rm_in (List.mem_singleton_self l), kI, by rw [upd_same]; intro z; cases z⟩
def ice (I H : Hp) (fp : List Addr) : Hp := fun a => if a ∈ fp then H a else I a
theorem ice_in {I H : Hp} {fp : List Addr} {a : Addr} (h : a ∈ fp) : ice I H fp a = H a := if_pos h
theorem ice_out {I H : Hp} {fp : List Addr} {a : Addr} (h : a ∉ fp) : ice I H fp a = I a := if_neg h
theorem ice_same {I H : Hp} {fp : List Addr} (h : ∀ a, a ∈ fp → I a = none) : Same I (ice I H fp) := fun b u e => by
  rw [ice_out fun z => by rw [h b z] at e; cases e]; exact e
theorem Stt.freezeAt {I0 H0 I H : Hp} {c : MF} {σ : St} (s : Stt I0 H0 ctx mem I H σ) (j : Nat) (hj : mem[j]? = some c) : ∃ fp, c.Q I H fp ∧ (∀ a, a ∈ fp → I a = none) ∧ Same I (ice I H fp) ∧ Stt I0 H0 ctx (mem.eraseIdx j) (ice I H fp) H σ := by
  obtain ⟨fps, rg, nd, k⟩ := s.me
  obtain ⟨M1, M2, A, fp, B, e1, e2, e3, h1, h2, h3⟩ := rg.split hj
  subst e1; subst e2
  rw [flat_mid] at nd k
  have ndA := List.nodup_append.mp nd
  have ndB := List.nodup_append.mp ndA.2.1
  have kf : ∀ a, a ∈ fp → H0 a = none ∧ I a = none ∧ H a ≠ none := fun a ha => k a (List.mem_append_right _ (List.mem_append_left _ ha))
  have oth : ∀ a, a ∈ A.flatten ∨ a ∈ B.flatten → a ∉ fp ∧ H0 a = none ∧ I a = none ∧ H a ≠ none := fun a ha => by
    rcases ha with ha | ha
    · exact ⟨fun z => ndA.2.2 a ha a (List.mem_append_left _ z) rfl, k a (List.mem_append_left _ ha)⟩
    · exact ⟨fun z => ndB.2.2 a z a ha rfl, k a (List.mem_append_right _ (List.mem_append_right _ ha))⟩
  have sm : Same I (ice I H fp) := ice_same fun a ha => (kf a ha).2.1
  refine ⟨fp, h2, fun a ha => (kf a ha).2.1, sm, ⟨s.fm.i.trans sm, s.fm.h, fun b u e => ?_, fun l e n => ?_⟩, s.len, fun i sf e => ?_, A ++ B, ?_, ?_, fun a ha => ?_⟩
  · by_cases hb : b ∈ fp
    · rw [ice_in hb] at e; exact e
    · rw [ice_out hb] at e; exact s.fm.ih _ _ e
  · rw [ice_out fun z => n (kf l z).1]; exact s.fm.mu l e n
  · obtain ⟨v, e1, q⟩ := s.sl i sf e
    exact ⟨v, e1, sf.mo.up sm q⟩
  · rw [erase_mid e3]
    exact (h1.up sm fun _ _ => rfl).join (h3.up sm fun _ _ => rfl)
  · rw [List.flatten_append]
    exact List.nodup_append.mpr ⟨ndA.1, ndB.2.1, fun a ha b hb => ndA.2.2 a ha b (List.mem_append_right _ hb)⟩
  · rw [List.flatten_append] at ha
    obtain ⟨n, x, y, z⟩ := oth a (List.mem_append.mp ha)
    exact ⟨x, by rw [ice_out n]; exact y, z⟩
theorem Stt.forgetAt {I0 H0 I H : Hp} {c : MF} {σ : St} (s : Stt I0 H0 ctx mem I H σ) (j : Nat) (hj : mem[j]? = some c) : Stt I0 H0 ctx (mem.eraseIdx j) I H σ := by
  obtain ⟨fps, rg, nd, k⟩ := s.me
  obtain ⟨M1, M2, A, fp, B, e1, e2, e3, h1, h2, h3⟩ := rg.split hj
  subst e1; subst e2
  rw [flat_mid] at nd k
  refine ⟨s.fm, s.len, s.sl, A ++ B, by rw [erase_mid e3]; exact h1.join h3, ?_, fun a ha => ?_⟩
  · have ndA := List.nodup_append.mp nd
    have ndB := List.nodup_append.mp ndA.2.1
    rw [List.flatten_append]
    exact List.nodup_append.mpr ⟨ndA.1, ndB.2.1, fun a ha b hb => ndA.2.2 a ha b (List.mem_append_right _ hb)⟩
  · rw [List.flatten_append] at ha
    rcases List.mem_append.mp ha with z | z
    · exact k a (List.mem_append_left _ z)
    · exact k a (List.mem_append_right _ (List.mem_append_right _ z))
theorem J1.sfld (i : Nat) {x C dx : Addr} {f sn : Str} {p1 : Pos} {gs : List (Str × SF)} {r : Rp α} [mo : Mo r] {m : Res α} (j : JE X I0 H0 W ctx (.ins x C dx gs :: mem) e m (rp r)) (cl : Cls X.K C) (hn : NoAttr X.K C f) (hg : gs.length < 1000) (hx : ∀ I H σ d, Stt I0 H0 ctx (.ins x C dx gs :: mem) I H σ → Fr H0 d → Kx I H σ d)
    (hc : ctx[i]? = some (some (SF.mk (rRef x) ())) := by rfl) (hN : X.N[i]? = some sn := by rfl) (hv : Vis X.env.scope sn := by first | exact Or.inl rfl | exact Or.inr (Or.inl rfl) | exact Or.inr (Or.inr rfl)) (hd : (sn == ("__debug__" : Str)) = false := by decide)
    (hcd : (sn == ("__classdict__" : Str)) = false := by decide) (hs : swapsWith e (some (.Attribute (.Name sn p1) f pos')) pos.line X.env = pure false := by rfl) :
    J1 X W Kx (Stt I0 H0 ctx (.ins x C dx gs :: mem)) (.Assign [.Attribute (.Name sn p1) f pos'] e pos) m (fun y => Stt I0 H0 ctx (.ins x C dx (putG f ⟨r, y⟩ gs) :: mem)) := fun I H σ D g p => by
  refine s_fld (j I H σ _ g ?_) hs
  cases m with
  | ok y =>
    intro I1 H1 v f1 h1
    have g1 := g.step f1
    obtain ⟨u, eu, hu⟩ := g1.sl i _ hc
    cases (show u = V.ref x from hu)
    obtain ⟨_, _, oo, zH, fs, eo, hf⟩ := g1.insAt (j := 0) (l := x) rfl
    subst eo
    refine w_var i ⟨x, C, dx, fs, rfl, zH, cl, hn, ?_, ?_⟩ eu hN hv hd hcd
    · rw [hf.length]; exact hg
    · exact p I1 _ σ f1.i (g1.cellAt (l := x) (c' := .ins x C dx (putG f ⟨r, y⟩ gs)) 0 rfl (fun q => q.1) ⟨rfl, _, upd_same, _, rfl, hf.put h1⟩)
  | err e => exact fun I' H' c d f x => p I' H' σ c d (hx _ _ _ _ (g.step f) (x.1.back g.fm.h)) x.2
  | stuck => exact p
theorem Stt.freeze {I0 H0 I H : Hp} {σ : St} {l C dx : Addr} {gs : List (Str × SF)} (s : Stt I0 H0 ctx (.ins l C dx gs :: mem) I H σ) : ∃ fs I', H l = some (.ins C dx fs) ∧ FldR I fs gs ∧ Stt I0 H0 ctx mem I' H σ ∧ Same I I' ∧ I' l = some (.ins C dx fs) := by
  obtain ⟨fp, ⟨e, o, h, fs, eo, p⟩, _, sm, s2⟩ := s.freezeAt 0 rfl
  subst e; subst eo
  exact ⟨fs, _, h, p, s2, sm, by rw [ice_in (List.mem_singleton_self l)]; exact h⟩

def spI (K : PySem.W.Frag) (C : Addr) (R : Hp → Hp → List V → δ → Prop) (m : δ → Res γ) (r : Ra γ) : Sp := fun vs H Q E => ∃ x dx ws H0 I d, vs = .ref x :: ws ∧ H0 x = none ∧ H0 dx = none ∧ dx ≠ x ∧ H = upd (upd H0 dx (.own x)) x (.ins C dx []) ∧ Same I H0 ∧ R I H0 ws d ∧
  PostE K (m d) r I H0 E (fun u H2 => u = .ref x → Q .non H2)
theorem cj_make {k : Nat} {C f : Addr} {fd : FuncData} {ps : List Str} {ds : List Value} {dvs : List V} {R R' : Hp → Hp → List V → δ → Prop} {m : δ → Res γ} (M : Mk X.K C f) (F : FnOk X.prog X.w X.K X.mg X.base (L2N.CX X.prog X.w) k f fd ps (spI X.K C R m rc)) (hr : Room (k + 1) X.A) (hb : Binds X.K fd ps ds) (hd : Vals dvs ds) (tk : L2N.Takes X W)
    (hR : ∀ I H vs d, R' I H vs d → R I H (vs ++ dvs) d) : CallJ X W (.ref C) R' m rc := fun I H σ Q vs d sm h p pins s us Iv r => by
  have n1 := Iv.hok.fresh (Nat.le_succ s.heap.objs.size)
  have n2 := Iv.hok.fresh (Nat.le_refl s.heap.objs.size)
  have n3 := Nat.ne_of_lt (Nat.lt_succ_self s.heap.objs.size)
  have hq : spI X.K C R m rc (.ref (s.heap.objs.size + 1) :: (vs ++ dvs)) (upd (upd H s.heap.objs.size (.own (s.heap.objs.size + 1))) (s.heap.objs.size + 1) (.ins C s.heap.objs.size [])) (fun v H2 => v = .non ∧ Q (.ref (s.heap.objs.size + 1)) H2) (fun cls d H' => W cls d σ H') :=
    ⟨s.heap.objs.size + 1, s.heap.objs.size, vs ++ dvs, H, I, d, rfl, n1, n2, n3, rfl, sm, hR _ _ _ _ h, p.imp fun v H' q e => ⟨rfl, e ▸ q⟩⟩
  have I2 := Inv.made (C := C) Iv
  have r2 : Vals (V.ref (s.heap.objs.size + 1) :: (vs ++ dvs)) (Value.ref (s.heap.objs.size + 1) :: (us ++ ds)) := .cons rfl (r.append hd)
  have hl : (Value.ref (s.heap.objs.size + 1) :: us ++ ds).length = ps.length := by
    have e := r2.length
    rw [F.len _ _ _ _ hq] at e
    exact e.symm
  refine wpAny_call (make_map (f := f) Iv.kIn M.makes M.init (beq_iff_eq.mp M.fn) (codeAny_mono (F.run _ X.stack _ _ ⟨Value.ref (s.heap.objs.size + 1) :: us, []⟩ (Value.ref (s.heap.objs.size + 1) :: (us ++ ds)) _ _ _ (hr.make C us [])
    (I2.env0.make C us []) (hb _ (Value.ref (s.heap.objs.size + 1) :: us) I2.kIn hl) r2 hq) fun r s' hq' => ?_))
  cases r with
  | error e => exact L2N.passAt tk σ pins _ _ e s' I2 hq'
  | ok fl =>
    cases fl with
    | ret u =>
      obtain ⟨v, H', I3, rv, ev, q3⟩ := I2.after hq'
      subst ev
      exact ⟨rv, ⟨V.ref (s.heap.objs.size + 1), H', I3, rfl, q3⟩⟩
    | next => exact False.elim hq'
    | brk => exact False.elim hq'
    | cont => exact False.elim hq'
end
section
variable {γ δ : Type} {P : Program} {w : World} {K : PySem.W.Frag} {mg : Str → Option Value} {base : Heap} {x qual : Str} {params : Arguments} {body : List Stmt} {scope : Scope} {dvs : List V} {kws : List (Str × V)} {f C : Addr} {fd : FuncData} {N ps : List Str} {k : Nat} {R : Hp → Hp → List V → δ → Prop} {m : δ → Res γ} {r : Ra γ}
theorem Stt.fresh {I0 H0 : Hp} {y dx : Addr} {σ : St} {ctx : List (Option SF)} (sm : Same I0 H0) (n1 : H0 y = none) (n2 : H0 dx = none) (n3 : dx ≠ y) (hl : σ.length = ctx.length) (hs : ∀ (i : Nat) (sf : SF), ctx[i]? = some (some sf) → ∃ v, σ[i]? = some (some v) ∧ sf.r I0 v sf.x) :
    Stt I0 H0 ctx [.ins y C dx []] I0 (upd (upd H0 dx (.own y)) y (.ins C dx [])) σ := by
  have e1 : Same H0 (upd (upd H0 dx (.own y)) y (.ins C dx [])) := fun b u e => by rw [upd_ne (ne_of_none e n1), upd_ne (ne_of_none e n2)]; exact e
  exact ⟨⟨Same.refl _, e1, sm.trans e1, fun _ e _ => e⟩, hl, hs, [[y]], ⟨⟨rfl, _, upd_same, [], rfl, True.intro⟩, True.intro⟩, by simp, fun a ha => by
    cases List.mem_singleton.mp (show a ∈ [y] by simpa using ha)
    exact ⟨n1, sm.free n1, by rw [upd_same]; intro z; cases z⟩⟩
theorem FunD.init {S : Type} (F : FunD K x qual params body scope dvs kws f fd) (Sc : FnScope N ps scope) (len : ∀ I H vs d, R I H vs d → vs.length + 1 = ps.length)
    (hb : ∀ (cdv : Value) (A : Around) (outer : List Env) (s : Shared) (I0 H0 H1 : Hp) (E : XK) (vs : List V) (d : δ) (y dx : Addr), Room k (A.deeper (envOfC qual scope s.heap.objs.size f cdv)) → Same I0 H0 → R I0 H0 vs d → H0 y = none → H0 dx = none → dx ≠ y → H1 = upd (upd H0 dx (.own y)) y (.ins C dx []) →
      ∃ (G : Knows) (S : Type) (mm : Res S) (G' : S → Knows), G I0 H1 (start N (.ref y :: vs)) ∧ JN (bx P w K mg base N qual scope f cdv A outer s H1 E) (bW E) (bK I0 H0) G body mm G' ∧
        (match mm with
         | .ok s => ∃ z, m d = .ok z ∧ ∀ I' H' σ', G' s I' H' σ' → ∃ I'', Fm I0 H0 I'' H' ∧ r I'' H' (.ref y) z
         | .err e => m d = .err e
         | .stuck => m d = .stuck)) : FnOk P w K mg base (L2N.CX P w) (k + 1) f fd ps (spI K C R m r) := by
  refine F.ok Sc (fun vs H Q E ⟨y, dx, ws, H0, I, d, e, _, _, _, _, _, h, _⟩ => by rw [e, List.length_cons]; exact len I H0 ws d h) fun cdv A outer s H vs Q E hr ⟨y, dx, ws, H0, I, d, e, n1, n2, n3, eH, sm, h, p⟩ => ⟨_, pss_W, ?_⟩
  subst e
  obtain ⟨G, S, mm, G', g, j, fin⟩ := hb cdv A outer s I H0 H E ws d y dx hr sm h n1 n2 n3 eH
  refine j I H _ _ g ?_
  cases mm with
  | ok z =>
    obtain ⟨y', e1, h1⟩ := fin
    intro I' H' σ' _ g'
    obtain ⟨I'', f1, r1⟩ := h1 I' H' σ' g'
    rw [e1] at p
    exact p I'' H' _ f1 r1 rfl
  | err e =>
    rw [show m d = _ from fin] at p
    exact fun I' H' _ c d f x => p I' H' c d f.1 ⟨f.2, x⟩
  | stuck =>
    rw [show m d = _ from fin] at p
    exact p
end
end L2.Tr

namespace L2.Tr
open PySem PySem.Spec PyProof.Rows He
def obsX (fs : List FB) (fn : List DefD) (K : PySem.W.Frag) : AlX := ((fs.all fun f => f K) && fn.all fun d => d.ok K, fn.map fun d => fnW K d.at_)
def valX (fn : List DefD) : AlX := (true, fn.map DefD.val)
def SaysX (fs : List FB) (fn : List DefD) (K : PySem.W.Frag) : Prop := obsX fs fn K = valX fn
section
variable {fs : List FB} {fn : List DefD} {K : PySem.W.Frag} {mg : Str → Option Value} {h : Heap}
theorem SaysX.fact (c : SaysX fs fn K) (i : Nat) {f : FB} (h : fs[i]? = some f := by rfl) : f K = true := by
  have c1 := (ba (show ((fs.all fun f => f K) && fn.all fun d => d.ok K) = true from congrArg (fun z : AlX => z.1) c)).1
  exact List.all_eq_true.mp c1 f (List.mem_of_getElem? h)
theorem SaysX.def_ (c : SaysX fs fn K) (i : Nat) {d : DefD} (h : fn[i]? = some d := by rfl) : ∃ fd, FunD K d.name d.qual d.params d.body d.scope (d.dvs K) (d.kws K) (fAd K d.at_) fd := by
  have c2 := (ba (show ((fs.all fun f => f K) && fn.all fun d => d.ok K) = true from congrArg (fun z : AlX => z.1) c)).2
  have e : fn.map (fun d => fnW K d.at_) = fn.map DefD.val := congrArg (fun z : AlX => z.2) c
  have e2 : (fn.map fun d => fnW K d.at_)[i]? = (fn.map DefD.val)[i]? := by rw [e]
  rw [List.getElem?_map, List.getElem?_map, h] at e2
  exact DefD.funD (Option.some.inj e2) (List.all_eq_true.mp c2 d (List.mem_of_getElem? h))
theorem glo_of (X : K.In h) (G : h.Ns mainGlobals mg) {x : Str} (c : fGlo x K = true) : mg x = some (.ref (ga K x)) := glo_ok X G c
theorem free_of (X : K.In h) (G : h.Ns mainGlobals mg) {x : Str} (c : fFree x K = true) : mg x = none := free_ok X G c
theorem noat_of {x f : Str} (c : fNoat x f K = true) : NoAttr K (ga K x) f := noat_ok c
theorem mkr_of {x : Str} (c : fMkr x K = true) : Mk K (ga K x) (ma K (ga K x) "__init__") := mkr_ok c
theorem exc_of (X : K.In h) (G : h.Ns mainGlobals mg) {x : Str} (c : fExc x K = true) : ExcP K mg x := by
  obtain ⟨c1, c2⟩ := ba c
  obtain ⟨a, b, d, e⟩ := exc_ok c1
  exact ⟨a, b, d, e, glo_ok X G c2⟩
theorem ocl_of {x : Str} (c : fOcl x K = true) : OCls K (ga K x) := by
  obtain ⟨c0, c⟩ := ba c
  obtain ⟨c1, c⟩ := ba c
  obtain ⟨c2, c⟩ := ba c
  obtain ⟨c3, c⟩ := ba c
  obtain ⟨c4, c⟩ := ba c
  obtain ⟨c5, c⟩ := ba c
  obtain ⟨c6, c⟩ := ba c
  obtain ⟨c7, c8⟩ := ba c
  exact ⟨cls_ok c0, c1, eqO_ok c2, eqO_ok c3, of_decide_eq_true c4, of_decide_eq_true c5, of_decide_eq_true c6, of_decide_eq_true c7, eqO_ok c8⟩
theorem omet_of {x m : Str} (c : fOMet x m K = true) : OMet K (ga K x) m (ma K (ga K x) m) := by
  obtain ⟨a, b⟩ := ba c
  exact ⟨eqO_ok a, b⟩
theorem nf_of {x : Str} (c : fNf x K = true) : PySem.W.notFirst K (ga K x) (.ref (ga K x)) = true ∧ PySem.W.notFirst K (ga K x) (.type "int") = true := ba c
theorem kit_of' {x y : Str} {b : Bool} (c : fKit x y b K = true) : PySem.W.kitOne K (.ref (ga K x)) (.ref (ga K y)) = some b := of_decide_eq_true c
theorem kitT_of {x : Str} {t : String} {b : Bool} (c : fKitT x t b K = true) : PySem.W.kitOne K (.ref (ga K x)) (.type t) = some b := of_decide_eq_true c
end
end L2.Tr

namespace L2.Tr
open PySem PySem.Spec PyProof.Rows
section
variable {α β γ δ S : Type} {X : Cx} {I0 H0 : Hp} {W : WX} {Kx : KnowsX} {G : Knows} {ctx cw : List (Option SF)} {mem : List MF} {e a b c o : Expr} {es bs : List Expr} {st b₀ : Stmt} {ss s1 s2 body suite : List Stmt} {pos pos' np : Pos} {n x : Str} {ra : Ra α} {rb : Ra β} {rr : Ra γ} {ma : Res α} {mb : Res β}
def weakC : List (Option SF) → List (Option SF) → Prop
  | [], [] => True
  | _ :: c, none :: d => weakC c d
  | a :: c, some b :: d => a = some b ∧ weakC c d
  | _, _ => False
theorem weakC.len : ∀ {c d : List (Option SF)}, weakC c d → c.length = d.length
  | [], [], _ => rfl
  | _ :: _, none :: _, h => congrArg Nat.succ (weakC.len (c := _) h)
  | _ :: _, some _ :: _, h => congrArg Nat.succ (weakC.len (c := _) h.2)
  | [], _ :: _, h => h.elim
  | _ :: _, [], h => h.elim
theorem weakC.get : ∀ {c d : List (Option SF)} {i : Nat} {sf : SF}, weakC c d → d[i]? = some (some sf) → c[i]? = some (some sf)
  | [], [], _, _, _, e => by simp at e
  | _ :: _, none :: _, 0, _, _, e => by simp at e
  | _ :: c, none :: d, i + 1, sf, h, e => by
    have e' : d[i]? = some (some sf) := by simpa using e
    have := weakC.get (c := c) h e'
    simpa using this
  | _ :: _, some _ :: _, 0, _, h, e => by
    have e' : some _ = some (some _) := e
    rw [h.1]; simpa using e
  | _ :: c, some _ :: d, i + 1, sf, h, e => by
    have e' : d[i]? = some (some sf) := by simpa using e
    have := weakC.get (c := c) h.2 e'
    simpa using this
  | [], _ :: _, _, _, h, _ => h.elim
  | _ :: _, [], _, _, h, _ => h.elim
theorem Stt.weak {I H : Hp} {σ : St} (s : Stt I0 H0 ctx mem I H σ) (h : weakC ctx cw) : Stt I0 H0 cw mem I H σ := ⟨s.fm, by rw [s.len, h.len], fun i sf e => s.sl i sf (h.get e), s.me⟩
theorem Stt.unset {I H : Hp} {σ : St} (s : Stt I0 H0 ctx mem I H σ) (i : Nat) {u : Option V} : Stt I0 H0 (ctx.set i none) mem I H (σ.set i u) := by
  refine ⟨s.fm, by rw [List.length_set, List.length_set]; exact s.len, fun j sf e => ?_, s.me⟩
  by_cases hj : j = i
  · subst hj
    rw [List.getElem?_set] at e
    by_cases hl : j < ctx.length
    · simp [hl] at e
    · simp [hl] at e
  · rw [List.getElem?_set_ne (Ne.symm hj)] at e
    obtain ⟨w, e1, q⟩ := s.sl j sf e
    exact ⟨w, by rw [List.getElem?_set_ne (Ne.symm hj)]; exact e1, q⟩

theorem lookup_mem {L : List (Str × Bool)} {x : Str} {b : Bool} (h : L.lookup x = some b) : (x, b) ∈ L := by
  induction L with
  | nil => cases h
  | cons p L ih =>
    obtain ⟨y, c⟩ := p
    have h' : (match x == y with | true => some c | false => L.lookup x) = some b := h
    cases q : (x == y) with
    | true =>
      rw [q] at h'
      cases h'
      rw [beq_iff_eq.mp q]; exact List.mem_cons_self
    | false => rw [q] at h'; exact List.mem_cons_of_mem _ (ih h')
def rExc (a : Addr) : Rp Unit := fun _ v _ => v = .ref a
instance {a : Addr} : Mo (rExc a) := ⟨fun _ h => h⟩
def MF.xd (K : PySem.W.Frag) (l : Addr) (ps : List (Str × Pay)) : MF := .one l (fun I o => ∃ fs, o = .xd fs ∧ Paired (fun (p : Str × V) (q : Str × Pay) => p.1 = q.1 ∧ PayR K I p.2 q.2) fs ps) (fun s ⟨fs, e, p⟩ => ⟨fs, e, Paired.mapP p fun _ q h => ⟨h.1, by
  obtain ⟨h1, h2⟩ := h
  cases hq : q.2 with
  | int i => rw [hq] at h2; exact h2
  | str i => rw [hq] at h2; exact h2
  | bl i => rw [hq] at h2; exact h2
  | non => rw [hq] at h2; exact h2
  | frac i => rw [hq] at h2; exact Mo.up (r := rFrac K) s h2
  | wts i j =>
    rw [hq] at h2
    obtain ⟨a, dx, b, dy, l, vs, e1, e2, e3, e4, e5⟩ := h2
    exact ⟨a, dx, b, dy, l, vs, e1, s _ _ e2, s _ _ e3, s _ _ e4, Paired.mapP e5 fun _ _ z => Mo.up (r := rFrac K) s z⟩⟩⟩)
def exm (K : PySem.W.Frag) (d : Option Addr) (e : Exn) : List MF := match d with
  | none => []
  | some a => [.xd K a e.pay]
def NoXd : List MF → Prop
  | [] => True
  | c :: m => (∀ (I H : Hp) (fp : List Addr) (a : Addr) (fs : List (Str × V)), c.Q I H fp → a ∈ fp → H a ≠ some (.xd fs)) ∧ NoXd m
theorem NoXd.at {I H : Hp} : ∀ {mem : List MF} {fps : List (List Addr)}, NoXd mem → Regs I H mem fps → ∀ (a : Addr) (fs : List (Str × V)), a ∈ fps.flatten → H a ≠ some (.xd fs)
  | [], [], _, _, a, fs, ha => by simp at ha
  | _ :: _, fp :: fps, ⟨n, m⟩, ⟨q, r⟩, a, fs, ha => by
    rw [List.flatten_cons] at ha
    rcases List.mem_append.mp ha with z | z
    · exact n I H fp a fs q z
    · exact NoXd.at m r a fs z
  | [], _ :: _, _, h, _, _, _ => h.elim
  | _ :: _, [], _, h, _, _, _ => h.elim
theorem Stt.exm {K : PySem.W.Frag} {I H : Hp} {σ : St} {ee : Exn} {cls : Value} {d : Option Addr} (s : Stt I0 H0 ctx mem I H σ) (f : Fr H0 d) (x : ExR K I H ee cls d) (hm : NoXd mem) : Stt I0 H0 ctx (Tr.exm K d ee ++ mem) I H σ := by
  cases d with
  | none => exact s
  | some a =>
    obtain ⟨_, _, fs, e1, e2, pr⟩ := x
    obtain ⟨fps, rg, nd, k⟩ := s.me
    have out : a ∉ fps.flatten := fun z => hm.at rg a fs z e1
    refine ⟨s.fm, s.len, s.sl, [a] :: fps, ⟨⟨rfl, _, e1, fs, rfl, pr⟩, rg⟩, ?_, fun b hb => ?_⟩
    · rw [List.flatten_cons]; exact List.nodup_cons.mpr ⟨out, nd⟩
    · rw [List.flatten_cons] at hb
      rcases List.mem_cons.mp hb with z | z
      · rw [z]; exact ⟨f a rfl, e2, by rw [e1]; intro y; cases y⟩
      · exact k b z
end
end L2.Tr

namespace L2.Tr
open PySem PySem.Spec PyProof.Rows
section
variable {α β γ δ S : Type} {X : Cx} {I0 H0 : Hp} {W : WX} {Kx : KnowsX} {G : Knows} {ctx cw : List (Option SF)} {mem : List MF} {e a b c o : Expr} {es bs : List Expr} {pos pos' np : Pos} {n x : Str} {ra : Ra α} {rb : Ra β} {rc : Ra γ} {ma : Res α} {mb : Res β}
def IniR (I : Hp) : List V → List (Option SF) → Prop
  | [], c => ∀ (i : Nat) (sf : SF), c[i]? ≠ some (some sf)
  | v :: vs, some sf :: c => sf.r I v sf.x ∧ IniR I vs c
  | _ :: _, _ => False
theorem IniR.get {I : Hp} : ∀ {vs : List V} {c : List (Option SF)} {n : Nat}, IniR I vs c → ∀ (i : Nat) (sf : SF), c[i]? = some (some sf) → ∃ v, (vs.map some ++ List.replicate n none)[i]? = some (some v) ∧ sf.r I v sf.x
  | [], c, n, h, i, sf, e => (h i sf e).elim
  | v :: vs, some sf' :: c, n, ⟨a, b⟩, 0, sf, e => by
    have e' : sf' = sf := by simpa using e
    subst e'
    exact ⟨v, by simp, a⟩
  | v :: vs, some sf' :: c, n, ⟨a, b⟩, i + 1, sf, e => by
    have e' : c[i]? = some (some sf) := by simpa using e
    obtain ⟨u, h1, h2⟩ := IniR.get (n := n) b i sf e'
    exact ⟨u, by simpa using h1, h2⟩
  | _ :: _, none :: _, _, h, _, _, _ => h.elim
  | _ :: _, [], _, h, _, _, _ => h.elim
theorem Stt.start {N : List Str} {vs : List V} (sm : Same I0 H0) (h : IniR I0 vs ctx) (hl : ctx.length = N.length) (hv : vs.length ≤ N.length) : Stt I0 H0 ctx [] I0 H0 (L2.start N vs) := by
  refine ⟨Fm.refl sm, ?_, fun i sf e => IniR.get h i sf e, [], True.intro, by simp, fun a ha => by simp at ha⟩
  unfold L2.start
  rw [List.length_append, List.length_map, List.length_replicate, hl]
  omega
theorem ini_nil {I : Hp} {c : List (Option SF)} (h : c.all (·.isNone) = true) : IniR I [] c := fun i sf e => by
  have := List.all_eq_true.mp h _ (List.mem_of_getElem? e)
  cases this
theorem FnR.nice {P : Program} {w : World} {K : PySem.W.Frag} {mg : Str → Option Value} {base : Heap} {k : Nat} {f : Addr} {R : Hp → Hp → List V → δ → Prop} {m m' : δ → Res γ} (F : FnR P w K mg base (L2N.CX P w) k f (spF K R m rc)) (h : ∀ d, m' d = .stuck ∨ m' d = m d) :
    FnR P w K mg base (L2N.CX P w) k f (spF K R m' rc) := F.imp fun vs H Q E ⟨I, d, s, r, p⟩ => ⟨I, d, s, r, by
  rcases h d with e | e
  · rw [show m' d = _ from e] at p; exact p.elim
  · rw [← e]; exact p⟩
theorem FnOk.fr0 {P : Program} {w : World} {K : PySem.W.Frag} {mg : Str → Option Value} {base : Heap} {k : Nat} {f : Addr} {fd : FuncData} {ps : List Str} {R : Hp → Hp → List V → δ → Prop} {m : δ → Res γ} (F : FnOk P w K mg base (L2N.CX P w) k f fd ps (spF K R m rc)) (hb : Binds K fd ps []) :
    FnR P w K mg base (L2N.CX P w) k f (spF K R m rc) := (FnOk.raw F hb .nil).imp fun vs H Q E h => by rw [List.append_nil]; exact h
theorem tyr_int {K : PySem.W.Frag} {t : String} {g : Bool} (h : kitB "int" t = some g) : TyR K (rp rInt) (.type t) (fun _ => g) := fun I H v x _ e => ⟨.type "int", by rw [show v = _ from e]; exact .base (.int _), kit_ty h⟩
theorem tyr_ins {K : PySem.W.Frag} {C : Addr} {u : Value} {g : Bool} (hc : OCls K C) (ia : InsR C ra) (h : PySem.W.kitOne K (.ref C) u = some g) : TyR K ra u (fun _ => g) := fun I H v x s e => by
  obtain ⟨a, dx, fs, rfl, ha⟩ := ia I H v x s e
  exact ⟨.ref C, .base (.ins ha hc.cl hc.ca hc.cn hc.ct hc.cm), h⟩
theorem insF {K : PySem.W.Frag} : InsR (He.ga K "Fraction") (rp (rFrac K)) := fun I H v x s ⟨a, dx, e, h⟩ => ⟨a, dx, _, e, s _ _ h⟩
theorem w_glob_at {C : Addr} (hm : X.mg n = some (.ref C)) (hg : Gl X n) (hd : (n == ("__debug__" : Str)) = false) (σ : St) (H : Hp) (Q : VK) (h : Q (.ref C) H) : wE X (.Name n pos) σ H Q := w_glob h hm rfl hg hd
theorem w_type_at {t : String} (hm : X.mg n = none) (hv : bootBuiltins n = some (.type t)) (hg : Gl X n) (hn : n ≠ "__name__") (hd : (n == ("__debug__" : Str)) = false) (σ : St) (H : Hp) (Q : VK) (h : Q (.ty t) H) : wE X (.Name n pos) σ H Q := w_bltn h hm hv rfl hg hn hd
theorem fld_top {K : PySem.W.Frag} : FldOf K (He.ga K "Fraction") (rp (rFrac K)) "top" (fun q => q.num) (rp rInt) := fun I H v x s ⟨a, dx, e, h⟩ => ⟨a, dx, _, .int x.num, e, s _ _ h, rfl, rfl⟩
theorem fld_bottom {K : PySem.W.Frag} : FldOf K (He.ga K "Fraction") (rp (rFrac K)) "bottom" (fun q => (q.den : Int)) (rp rInt) := fun I H v x s ⟨a, dx, e, h⟩ => ⟨a, dx, _, .int (x.den : Int), e, s _ _ h, rfl, rfl⟩
variable {f f' : Addr} {k k' : Nat} {g : Rat × Num × Unit → Res γ} {g' : Rat × Int × Unit → Res γ}
variable {gb : Rat × Num × Unit → Res Bool}
theorem opj_neqq (hc : OCls X.K (He.ga X.K "Fraction")) (hm : OMet X.K (He.ga X.K "Fraction") "__eq__" f) (hn : PySem.W.notFirst X.K (He.ga X.K "Fraction") (.ref (He.ga X.K "Fraction")) = true) (F : FnR X.prog X.w X.K X.mg X.base (L2N.CX X.prog X.w) k f (spF X.K (R2' (rp (rFrac X.K)) (rp (rNum X.K))) gb (rp rBl))) (hr : Room (k + 1) X.A) (tk : L2N.Takes X W) :
    OpJ X W (compareOp .NotEq) (rp (rFrac X.K)) (rp (rFrac X.K)) (fun x y => (gb (x, .q y, ())).bind fun z => .ok (!z)) (rp rBl) := opj_neO (g := fun d => gb (d.1, .q d.2.1, ())) hc hm hr tk hn insF insF (F.imp fun vs H Q E ⟨I, d, s, r, p⟩ => ⟨I, (d.1, .q d.2.1, ()), s, r, p⟩)
theorem JE.isE {ad : Addr} {oe : Obj} {pn : List (Addr × Obj)} {D : Addr} {u : Value} {cv : V} {bb : Bool} (hz : L2N.Zn (.ref D) none oe) (hf : ∃ vs, oe.data = .fields vs) (C : ExcC X.K D) (hk : PySem.W.kitOne X.K (.ref D) u = some bb) (j : JE (X.suite ad ((ad, oe) :: pn)) I0 H0 W ctx mem a (.ok ()) (rp (rExc ad))) (jc : ∀ σ H Q, Q cv H → wE (X.suite ad ((ad, oe) :: pn)) b σ H Q) (hc : ClsV cv u) (hm : X.mg "isinstance" = none) (hg : Gl (X.suite ad ((ad, oe) :: pn)) "isinstance" := by rfl)
    (hs : starEach [a, b] X.env = (false, eval a X.env) :: starEach [b] X.env := by rfl) (hs2 : starEach [b] X.env = (false, eval b X.env) :: starEach [] X.env := by rfl) (hpl : (backTo pos (starEach [b] X.env)).any (·.1) = false := by rfl) :
    JE (X.suite ad ((ad, oe) :: pn)) I0 H0 W ctx mem (.Call (.Name "isinstance" pos') [a, b] [] pos) (.ok bb) (rp rBl) := fun I H σ Q st p => by
  refine w_callB (id := "isinstance") (Tr.w_cons (j I H σ _ st ?_) hs) hm (by decide +kernel) hg (by decide) (by decide) hs hpl
  intro I1 H1 v f1 r1
  cases (show v = V.ref ad from r1)
  refine Tr.w_cons (jc σ H1 _ (w_nil ?_)) hs2
  exact CallR.w (call_isE C hz.zc hf) ⟨cv, u, bb, rfl, fun w hw => hc.eq hw, hk, p I1 H1 _ f1 rfl⟩
end
def MkR {γ δ : Type} (P : Program) (w : World) (K : PySem.W.Frag) (mg : Str → Option Value) (base : Heap) (k : Nat) (C : Addr) (R : Hp → Hp → List V → δ → Prop) (m : δ → Res γ) (r : Ra γ) : Prop :=
  ∀ (X : Cx) (W : WX), X.prog = P → X.w = w → X.K = K → X.mg = mg → X.base = base → Room k X.A → L2N.Takes X W → CallJ X W (.ref C) R m r
theorem MkR.nice {γ δ : Type} {P : Program} {w : World} {K : PySem.W.Frag} {mg : Str → Option Value} {base : Heap} {k : Nat} {C : Addr} {R : Hp → Hp → List V → δ → Prop} {m m' : δ → Res γ} {r : Ra γ} (F : MkR P w K mg base k C R m r) (h : ∀ d, m' d = .stuck ∨ m' d = m d) : MkR P w K mg base k C R m' r := fun X W e1 e2 e3 e4 e5 hr tk I H σ Q vs d s a p => by
  refine F X W e1 e2 e3 e4 e5 hr tk I H σ Q vs d s a ?_
  rcases h d with e | e
  · rw [show m' d = _ from e] at p; exact p.elim
  · rw [← e]; exact p
theorem mkR_of {γ δ δ' : Type} {P : Program} {w : World} {K : PySem.W.Frag} {mg : Str → Option Value} {base : Heap} {k : Nat} {C f : Addr} {fd : FuncData} {ps : List Str} {ds : List Value} {dvs : List V} {R : Hp → Hp → List V → δ → Prop} {R' : Hp → Hp → List V → δ' → Prop} {m : δ → Res γ} {h : δ' → δ} {r : Ra γ} (M : Mk K C f) (F : FnOk P w K mg base (L2N.CX P w) k f fd ps (spI K C R m r)) (hb : Binds K fd ps ds) (hd : Vals dvs ds)
    (hR : ∀ I H vs d, R' I H vs d → R I H (vs ++ dvs) (h d)) : MkR P w K mg base (k + 1) C R' (fun d => m (h d)) r := fun X W e1 e2 e3 e4 e5 hr tk => by
  subst e1; subst e2; subst e3; subst e4; subst e5
  exact cj_make (R' := R') (m := fun d => m (h d)) (R := fun I H vs d => R I H vs (h d)) M (F.imp fun vs H Q E ⟨x, dx, ws, H0, I, d, a1, a2, a3, a4, a5, a6, a7, a8⟩ => ⟨x, dx, ws, H0, I, h d, a1, a2, a3, a4, a5, a6, a7, a8⟩) hr hb hd tk hR
theorem exm_of {K : PySem.W.Frag} {x y : Str} {b : Bool} (c : fExm x y b K = true) : PySem.W.exmOne K (.ref (He.ga K x)) (.ref (He.ga K y)) = some b := He.exm_ok c
theorem excC_of {K : PySem.W.Frag} {x : Str} (c : fExcC x K = true) : ExcC K (He.ga K x) := by
  obtain ⟨c1, c⟩ := He.ba c
  obtain ⟨c2, c⟩ := He.ba c
  obtain ⟨c3, c⟩ := He.ba c
  obtain ⟨c4, c⟩ := He.ba c
  obtain ⟨c5, c⟩ := He.ba c
  obtain ⟨c6, c⟩ := He.ba c
  obtain ⟨c7, c8⟩ := He.ba c
  exact ⟨He.eqO_ok c1, He.eqO_ok c2, of_decide_eq_true c3, c4, He.eqO_ok c5, He.eqO_ok c6, of_decide_eq_true c7, of_decide_eq_true c8⟩
section
variable {S γ : Type} {X : Cx} {I0 H0 : Hp} {W : WX} {Kx : KnowsX} {ctx : List (Option SF)} {mem : List MF} {pos : Pos}
theorem J1.raiseP {x m : Str} {j : Nat} {p1 p2 p3 : Pos} {G' : S → Knows} (hc : X.calm = true) (tk : L2N.Takes X W) (ep : ExcP X.K X.mg x) (hx : ∀ I H σ d, Stt I0 H0 ctx mem I H σ → Fr H0 d → Kx I H σ d) (hg : Gl X x := by rfl) (hdb : (x == ("__debug__" : Str)) = false := by decide) :
    J1 X W Kx (Stt I0 H0 ctx mem) (.Raise (some (.Call (.Name x p1) [.Constant (.str m) j p2] [] p3)) none pos) (.err ⟨x, []⟩ : Res S) G' := fun I H σ D g p => by
  refine s_raise hc tk (L2N.pmk_own PySem.F.excBase_ValueError ep.ex ep.gl ep.kp (raises_own ep.bs ep.ty) hg hdb) ?_
  exact p I H σ _ none (hx _ _ _ _ g fun _ z => nomatch z) ⟨rfl, rfl⟩
end
end L2.Tr

namespace L2.Tr
open PySem PySem.Spec PyProof.Rows
section
variable {α β γ δ ε : Type} {X : Cx} {I0 H0 : Hp} {W : WX} {ctx : List (Option SF)} {mem : List MF} {e a b c o : Expr} {es bs : List Expr} {kws : List Keyword} {pos pos' kpos : Pos} {n x : Str} {nm : Option Str} {ra : Ra α} {rb : Ra β} {rc : Ra γ} {ma : Res α} {mb : Res β}
def callKW (X : Cx) (f : Value) (ks : List Str) (σ : St) (xs zs : List V) (H : Hp) (Q : VK) : Prop := ∀ (pins : List (Addr × Obj)) (s : Shared) (us ws : List Value), Inv X pins σ H s → Vals xs us → Vals zs ws → wpAny (model X.prog X.w) X.A (call f us (ks.zip ws)) (EP X pins σ Q) X.xe s
def CallKJ (X : Cx) (W : WX) (f : Value) (ks : List Str) (R : Hp → Hp → List V → δ → Prop) (R' : Hp → Hp → List V → ε → Prop) (g : δ → ε → Res γ) (rc : Ra γ) : Prop :=
  ∀ (I H : Hp) (σ : St) (Q : VK) (vs zs : List V) (x : δ) (y : ε), Same I H → R I H vs x → R' I H zs y → PostE X.K (g x y) rc I H (fun cls d H' => W cls d σ H') Q → callKW X f ks σ vs zs H Q
class MoR {δ : Type} (R : Hp → Hp → List V → δ → Prop) : Prop where
  up : ∀ {I H I' H' : Hp} {vs : List V} {x : δ}, Same I I' → Same H H' → R I H vs x → R I' H' vs x
instance : MoR aNil := ⟨fun _ _ h => h⟩
instance {r : Ra α} {R : Hp → Hp → List V → δ → Prop} [m : MoA r] [m' : MoR R] : MoR (aCons r R) := ⟨fun a b ⟨v, ws, e, h, h'⟩ => ⟨v, ws, e, m.up a b h, m'.up a b h'⟩⟩
variable {R : Hp → Hp → List V → δ → Prop} {R' : Hp → Hp → List V → ε → Prop} {md : Res δ} {me : Res ε} {g : δ → ε → Res γ} {ks : List Str}
theorem cx_false {P : Program} {w : World} {l : List Env} {H : Hp} {s : Shared} {e : Value} {s' : Shared} (h : L2N.CX P w l H s (fun _ _ _ => False) e s') : False := by
  obtain ⟨_, _, _, _, _, _, _, _, _, _, _, _, z⟩ := h
  exact z.elim
end
def MkK {γ δ ε : Type} (P : Program) (w : World) (K : PySem.W.Frag) (mg : Str → Option Value) (base : Heap) (k : Nat) (C : Addr) (ks : List Str) (R : Hp → Hp → List V → δ → Prop) (R' : Hp → Hp → List V → ε → Prop) (m : δ → ε → Res γ) (r : Ra γ) : Prop :=
  ∀ (X : Cx) (W : WX), X.prog = P → X.w = w → X.K = K → X.mg = mg → X.base = base → Room k X.A → L2N.Takes X W → CallKJ X W (.ref C) ks R R' m r
theorem MkK.nice {γ δ ε : Type} {P : Program} {w : World} {K : PySem.W.Frag} {mg : Str → Option Value} {base : Heap} {k : Nat} {C : Addr} {ks : List Str} {R : Hp → Hp → List V → δ → Prop} {R' : Hp → Hp → List V → ε → Prop} {m m' : δ → ε → Res γ} {r : Ra γ} (F : MkK P w K mg base k C ks R R' m r) (h : ∀ d e, m' d e = .stuck ∨ m' d e = m d e) : MkK P w K mg base k C ks R R' m' r := fun X W e1 e2 e3 e4 e5 hr tk I H σ Q vs zs d ee s a b p => by
  refine F X W e1 e2 e3 e4 e5 hr tk I H σ Q vs zs d ee s a b ?_
  rcases h d ee with e | e
  · rw [show m' d ee = _ from e] at p; exact p.elim
  · rw [← e]; exact p
end L2.Tr

namespace L2.Tr
open PySem PySem.Spec PyProof.Rows He
theorem ns_of {K : PySem.W.Frag} {h : Heap} {a : Addr} (X : K.In h) (c : nsB K a = true) : h.Ns a (nsG K a) := by
  unfold nsB at c
  unfold nsG
  cases e : K.lookup a with
  | none => rw [e] at c; cases c
  | some o =>
    rw [e] at c
    dsimp only at c ⊢
    cases d : o.data with
    | dict es ep =>
      rw [d] at c
      dsimp only at c ⊢
      refine ⟨o, es, ep, X a o e, d, fun x hx => ?_, fun _ => rfl⟩
      have q := Array.all_eq_true'.mp c x hx
      cases k : x.key with
      | str n t => exact ⟨n, t, rfl⟩
      | _ => rw [k] at q; cases q
    | _ => rw [d] at c; cases c
theorem seer_of {K : PySem.W.Frag} {h : Heap} (X : K.In h) (B : ∃ mb, h.Ns builtinsNs mb ∧ ∀ x : Str, x ≠ "__name__" → mb x = bootBuiltins x) (c : fSeer K = true) : h.NoSeer := by
  unfold fSeer at c
  simp only [Bool.and_eq_true, Option.isNone_iff_eq_none] at c
  obtain ⟨⟨⟨⟨a1, a2⟩, a3⟩, b1, b2⟩, c1, c2⟩ := c
  refine ⟨⟨_, ns_of X a1, a2, a3⟩, ⟨_, ns_of X b1, b2⟩, B, ?_⟩
  unfold modB at c2
  split at c2
  · rename_i bm e
    split at c2
    · rename_i ob q
      rw [Bool.and_eq_true, decide_eq_true_iff] at c2
      obtain ⟨d1, d2⟩ := c2
      split at d1
      · rename_i n z
        rw [decide_eq_true_iff] at d1
        subst d1
        exact ⟨_, bm, ob, ns_of X c1, e, X _ _ q, z, d2⟩
      · cases d1
    · cases c2
  · cases c2
structure Large (X : Cx) : Prop where
  seer : fSeer X.K = true
  tree : X.prog.given.tree = none
  room : Room 34 X.A
  top : ∃ e o, X.stack = e :: o ∧ e.scope.isGenerator = false ∧ e.scope.isCoroutine = false ∧ e.builtins = builtinsNs ∧ e.globals = mainGlobals
theorem pylong_room {X : Cx} {pins : List (Addr × Obj)} {σ : List (Option V)} {H : Hp} {s : Shared} (I : Inv X pins σ H s) (L : Large X) : PySem.PylongRoom (model X.prog X.w) X.A s := by
  obtain ⟨e, o, hs, hg, hc, hb, hl⟩ := L.top
  exact PySem.PylongRoom.of I.nolimit (by have := L.room.dp; show X.A.depth + 100 < _; omega) (PySem.SeerAt.of (M := model X.prog X.w) ((seer_of I.ok.mod.kin I.ok.mod.blt L.seer).keeps I.bk) L.tree (I.ok.frames.trans (congrArg some hs)) hg hc hb hl)
theorem op_fdivB {X : Cx} (L : Large X) : OpR X (binaryOp .FloorDiv) (rI (fun _ j => j ≠ 0) fun i j => .int (i.fdiv j)) := by
  intro pins s σ H x y v u Q I rx ry h
  obtain ⟨i, j, rfl, rfl, hc, q⟩ := h
  obtain ⟨t, rfl⟩ := rx
  obtain ⟨t', rfl⟩ := ry
  exact floordiv_int hc ⟨.int (i.fdiv j), H, I.tok _, ⟨_, rfl⟩, q⟩ (.inr (pylong_room I L))
theorem Large.bx {P : Program} {w : World} {K : PySem.W.Frag} {mg : Str → Option Value} {base : Heap} {N ps : List Str} {qual : Str} {scope : Scope} {f : Addr} {cdv : Value} {A : Around} {outer : List Env} {s : Shared} {H : Hp} {E : XK} {k : Nat} (h1 : fSeer K = true) (h2 : P.given.tree = none) (hr : Room k (A.deeper (envOfC qual scope s.heap.objs.size f cdv))) (S : FnScope N ps scope) (hk : 34 ≤ k := by decide) : Large (Tr.bx P w K mg base N qual scope f cdv A outer s H E) := ⟨h1, h2, hr.mono hk, _, _, rfl, S.gen, S.co, rfl, rfl⟩
def fdivB (x y : Int) : Res Int := Res.guard (y ≠ 0) (.ok (x.fdiv y))
theorem opj_fdivB {X : Cx} {W : WX} (L : Large X) : OpJ X W (binaryOp .FloorDiv) (rp rInt) (rp rInt) (fun x y => fdivB x y) (rp rInt) := fun I H σ Q u v x y s a b p => OpR.w (op_fdivB L) ⟨x, y, a, b, (post_guard p).1, (post_guard p).2 I H _ (Fm.refl s) rfl⟩
end L2.Tr

namespace L2.Tr
open PySem PySem.Spec PyProof.Rows
abbrev absI (x : Int) : Int := if x < 0 then -x else x
theorem absI_eq (x : Int) : absI x = (x.natAbs : Int) := by unfold absI; split <;> omega
theorem modI_ok {x y : Int} (h : y ≠ 0) : modI x y = .ok (x.fmod y) := Res.guard_pos h _
theorem cd_loop {c : Int × Int → Res Bool} {f : Int × Int → Res (Int × Int)} (hc : ∀ s, c s = .ok (!decide (s.2 = 0))) (hf : ∀ s, s.2 ≠ 0 → f s = .ok (s.2, s.1.fmod s.2)) : ∀ (k : Nat) (a b : Nat), b < k → whileM c f k ((a : Int), (b : Int)) = .ok ((Nat.gcd b a : Int), 0)
  | 0, _, _, h => by omega
  | k + 1, a, b, h => by
    show (c _).bind _ = _
    rw [hc]
    by_cases hb : b = 0
    · subst hb
      simp
    · have hb' : ¬ ((b : Int) = 0) := by omega
      simp only [Res.ok_bind, decide_eq_false hb', Bool.not_false, if_true]
      rw [hf _ hb', Int.fmod_eq_emod_of_nonneg _ (by omega)]
      show whileM c f k (((b : Nat) : Int), (((a % b : Nat)) : Int)) = _
      rw [cd_loop hc hf k b (a % b) (by have := Nat.mod_lt a (Nat.pos_of_ne_zero hb); omega)]
      rw [Nat.gcd_rec b a]
def eBF : Exn := ⟨"BadFraction", []⟩
def qRaw (t b : Int) : Res Rat := if b = 0 then .err eBF else .ok (Rat.divInt t b)
def qMk (t b : Int) : Res Rat := if b = 0 then .err eBF else .ok (Rat.divInt t b)
theorem log2_mono {a b : Nat} (h : a ≤ b) : a.log2 ≤ b.log2 := by
  by_cases ha : a = 0
  · subst ha; simp
  · have hb : b ≠ 0 := by omega
    exact (Nat.le_log2 hb).mpr (Nat.le_trans (Nat.log2_self_le ha) h)
theorem qMk_raw (t b : Int) : qMk t b = .stuck ∨ qMk t b = qRaw t b := .inr rfl
theorem div_num {t b : Int} (hb : b ≠ 0) (dv : Int) (hd : dv = if b < 0 then -(Int.gcd t b : Int) else (Int.gcd t b : Int)) : t.fdiv dv = (Rat.divInt t b).num ∧ b.fdiv dv = ((Rat.divInt t b).den : Int) := by
  have hg : (Int.gcd t b : Int) ≠ 0 := by
    intro h
    have := Int.gcd_eq_zero_iff.mp (by exact_mod_cast h : Int.gcd t b = 0)
    exact hb this.2
  obtain ⟨x, hx⟩ : (Int.gcd t b : Int) ∣ t := Int.gcd_dvd_left t b
  obtain ⟨y, hy⟩ : (Int.gcd t b : Int) ∣ b := Int.gcd_dvd_right t b
  have hgp : (0 : Int) < (Int.gcd t b : Int) := by omega
  rw [Rat.num_divInt, Rat.den_divInt, if_neg hb, Int.gcd_comm b t]
  generalize hG : (Int.gcd t b) = G at *
  have e1 : ∀ z : Int, ((G : Int) * z).fdiv G = z := fun z => by rw [Int.mul_comm]; exact Int.mul_fdiv_cancel z hg
  have e2 : ∀ z : Int, ((G : Int) * z).fdiv (-G) = -z := fun z => by
    have : (G : Int) * z = (-z) * (-(G : Int)) := by rw [Int.neg_mul_neg, Int.mul_comm]
    rw [this]; exact Int.mul_fdiv_cancel _ (by omega)
  have e3 : ∀ z : Int, ((G : Int) * z) / G = z := fun z => Int.mul_ediv_cancel_left z hg
  by_cases h : b < 0
  · rw [if_pos h] at hd
    subst hd
    have sg : b.sign = -1 := Int.sign_eq_neg_one_of_neg h
    refine ⟨?_, ?_⟩
    · rw [sg, hx, e2, show (-1 : Int) * ((G : Int) * x) = (G : Int) * (-x) from by rw [Int.mul_neg, Int.neg_mul, Int.one_mul], e3]
    · have e4 : ((b.natAbs / G : Nat) : Int) = -y := by
        rw [Int.natCast_ediv, show (b.natAbs : Int) = (G : Int) * (-y) from by rw [Int.mul_neg, ← hy]; omega, e3]
      rw [e4]
      conv => lhs; rw [hy]
      exact e2 y
  · rw [if_neg h] at hd
    subst hd
    have sg : b.sign = 1 := Int.sign_eq_one_of_pos (by omega)
    refine ⟨?_, ?_⟩
    · rw [sg, Int.one_mul]
      conv => lhs; rw [hx]
      conv => rhs; rw [hx]
      rw [e1, e3]
    · have e4 : ((b.natAbs / G : Nat) : Int) = y := by
        rw [Int.natCast_ediv, show (b.natAbs : Int) = (G : Int) * y from by rw [← hy]; omega, e3]
      rw [e4]
      conv => lhs; rw [hy]
      exact e1 y
theorem frF_of {I : Hp} {fs : List (Str × V)} {q : Rat} {n d : Int} (hn : n = q.num) (hd : d = q.den) (h : FldR I fs [("top", ⟨rInt, n⟩), ("bottom", ⟨rInt, d⟩)]) : fs = frF q := by
  subst hn; subst hd
  match fs, h with
  | [(a, u), (b, v)], ⟨e1, e2, e3, e4, _⟩ =>
    cases (show a = _ from e1); cases (show u = _ from e2); cases (show b = _ from e3); cases (show v = _ from e4)
    rfl
def n_cd (a b : Int) : Res Int := .ok (Int.gcd a b : Int)
theorem weak_nil : weakC [] [] := True.intro
theorem weak_some {a : SF} {c d : List (Option SF)} (h : weakC c d) : weakC (some a :: c) (some a :: d) := ⟨rfl, h⟩
theorem weak_none {a : Option SF} {c d : List (Option SF)} (h : weakC c d) : weakC (a :: c) (none :: d) := h
theorem Stt.recast {I0 H0 I H : Hp} {ctx : List (Option SF)} {mem : List MF} {σ : L2.St} (s : Stt I0 H0 ctx mem I H σ) (i : Nat) {a b : SF} (hc : ctx[i]? = some (some a)) (h : ∀ v, a.r I v a.x → b.r I v b.x) : Stt I0 H0 (ctx.set i (some b)) mem I H σ := by
  refine ⟨s.fm, by rw [List.length_set]; exact s.len, fun j sf e => ?_, s.me⟩
  by_cases hj : j = i
  · subst hj
    rw [List.getElem?_set] at e
    have hl : j < ctx.length := (List.getElem?_eq_some_iff.mp hc).1
    simp only [hl, if_true] at e
    cases e
    obtain ⟨v, e1, q⟩ := s.sl j a hc
    exact ⟨v, e1, h v q⟩
  · rw [List.getElem?_set_ne (Ne.symm hj)] at e
    exact s.sl j sf e
theorem JR.num {γ : Type} {X : Cx} {I0 H0 : Hp} {W : WX} {Kx : KnowsX} {ctx : List (Option SF)} {mem : List MF} {ss : List Stmt} {rr : Ra γ} {K : PySem.W.Frag} (i : Nat) {x : Num} {f1 : Int → Res γ} {f2 : Rat → Res γ} (k1 : ∀ n, JR X I0 H0 W Kx (Stt I0 H0 (ctx.set i (some ⟨rInt, n⟩)) mem) ss (f1 n) rr) (k2 : ∀ r, JR X I0 H0 W Kx (Stt I0 H0 (ctx.set i (some ⟨rFrac K, r⟩)) mem) ss (f2 r) rr)
    (hc : ctx[i]? = some (some ⟨rNum K, x⟩) := by rfl) : JR X I0 H0 W Kx (Stt I0 H0 ctx mem) ss (match x with | .i n => f1 n | .q r => f2 r) rr := fun I H σ D g p => by
  cases x with
  | i n => exact k1 n I H σ D (g.recast i (b := ⟨rInt, n⟩) hc fun v h => h) p
  | q r => exact k2 r I H σ D (g.recast i (b := ⟨rFrac K, r⟩) hc fun v h => h) p
theorem JR.dead {γ : Type} {X : Cx} {I0 H0 : Hp} {W : WX} {Kx : KnowsX} {G : Knows} {ss : List Stmt} {rr : Ra γ} : JR X I0 H0 W Kx G ss (.stuck : Res γ) rr := fun _ _ _ _ _ p => p.elim
theorem paired_ints (I H : Hp) : ∀ ns : List Int, Paired (rp rInt I H) (ns.map V.int) ns
  | [] => .nil
  | _ :: ns => .cons rfl (paired_ints I H ns)
def cellAt (ns : List Int) (k : Nat) : Int := ns.getD k 0
theorem atM_nat {α : Type} {xs : List α} {k : Nat} {x : α} (h : xs[k]? = some x) : atM xs (k : Int) = .ok x := by unfold atM; rw [atI_nat h]
theorem powI_ok {x : Int} {y : Nat} (h1 : y ≤ 1000000) (h2 : x.natAbs < 2 ^ 64) : powI x (y : Int) = .ok (x ^ y) := by
  unfold powI; rw [Res.guard_pos ⟨by omega, .inl ⟨by omega, h2⟩⟩]; rfl
theorem fdivI_ok {x y : Int} (h0 : y ≠ 0) (h : y.natAbs.log2 < 9000) : fdivI x y = .ok (x.fdiv y) := Res.guard_pos ⟨h0, h⟩ _
theorem FnOk.no {P : Program} {w : World} {K : PySem.W.Frag} {mg : Str → Option Value} {base : Heap} {k : Nat} {f : Addr} {fd : FuncData} {ps : List Str} {sp : Sp} (F : FnOk P w K mg base (L2N.CX P w) k f fd ps sp) : FnOk P w K mg base CX0 k f fd ps (fun vs H Q _ => sp vs H Q fun _ _ _ => False) :=
  ⟨fun vs H Q _ h => F.len vs H Q _ h, fun A outer s H args us vs Q E hr e0 hb hv h => codeAny_mono (F.run A outer s H args us vs Q _ hr e0 hb hv h) fun r s' hq => by
    cases r with
    | error e => exact cx_false hq
    | ok fl => cases fl <;> exact hq⟩
end L2.Tr

namespace L2.Tr
open PySem PySem.Spec PyProof.Rows
section
variable {α β γ δ S : Type} {X : Cx} {I0 H0 : Hp} {W : WX} {Kx : KnowsX} {G : Knows} {ctx cw : List (Option SF)} {mem : List MF} {e a b c o tg iter : Expr} {es bs : List Expr} {ss body : List Stmt} {pos pos' : Pos} {n : Str} {ra : Ra α} {rr : Ra γ} {ma : Res α}
def wI (X : Cx) (tg iter : Expr) : TI := fun σ H R => ∀ (pins : List (Addr × Obj)) (s : Shared), Inv X pins σ H s → wpAny (model X.prog X.w) X.A (eval iter X.env) (fun v s1 => wpAny (model X.prog X.w) X.A (pyIter v) (PIEC X pins σ tg R) X.xe s1) X.xe s
theorem PI.w {t : TI} {σ : St} {H : Hp} {R : It → Hp → Prop} (p : PIC X tg iter t) (h : t σ H R) : wI X tg iter σ H R := fun pins s I => p.run pins s σ H R I h
end
end L2.Tr

namespace L2.Tr
open PySem PySem.Spec PyProof.Rows
inductive Fl (S L γ : Type)
  | nx (s : S)
  | rt (y : γ)
  | bk (l : L)
  | ct (l : L)
section
variable {α β γ δ S T L L' : Type}
def Fl.then (f : S → Res (Fl T L γ)) : Fl S L γ → Res (Fl T L γ)
  | .nx s => f s
  | .rt y => .ok (.rt y)
  | .bk l => .ok (.bk l)
  | .ct l => .ok (.ct l)
def Fl.out (f : S → Res γ) : Fl S L γ → Res γ
  | .nx s => f s
  | .rt y => .ok y
  | .bk _ => .stuck
  | .ct _ => .stuck
@[simp] theorem Fl.then_nx (f : S → Res (Fl T L γ)) (s : S) : Fl.then f (.nx s) = f s := rfl
@[simp] theorem Fl.then_rt (f : S → Res (Fl T L γ)) (y : γ) : Fl.then f (.rt y) = .ok (.rt y) := rfl
@[simp] theorem Fl.then_bk (f : S → Res (Fl T L γ)) (y : L) : Fl.then f (.bk y) = .ok (.bk y) := rfl
@[simp] theorem Fl.then_ct (f : S → Res (Fl T L γ)) (y : L) : Fl.then f (.ct y) = .ok (.ct y) := rfl
@[simp] theorem Fl.out_nx (f : S → Res γ) (s : S) : Fl.out (L := L) f (.nx s) = f s := rfl
@[simp] theorem Fl.out_rt (f : S → Res γ) (y : γ) : Fl.out (L := L) f (.rt y) = .ok y := rfl
def PostG (X : Cx) (I0 H0 : Hp) (W : WX) (Kx : KnowsX) (I : Hp) (m : Res (Fl S L γ)) (G : S → Knows) (GL : L → Knows) (r : Ra γ) (D : Ends) : Prop := match m with
  | .ok (.nx s) => ∀ I' H' σ', Same I I' → G s I' H' σ' → D.nx σ' H'
  | .ok (.bk s) => ∀ I' H' σ', Same I I' → GL s I' H' σ' → D.bk σ' H'
  | .ok (.ct s) => ∀ I' H' σ', Same I I' → GL s I' H' σ' → D.ct σ' H'
  | .ok (.rt y) => ∀ I' H' v, Fm I0 H0 I' H' → r I' H' v y → D.rt v H'
  | .err e => ∀ I' H' σ' cls d, Kx I' H' σ' d → ExR X.K I' H' e cls d → W cls d σ' H'
  | .stuck => False
theorem PostG.up {X : Cx} {I0 H0 : Hp} {W : WX} {Kx : KnowsX} {I I1 : Hp} {m : Res (Fl S L γ)} {G : S → Knows} {GL : L → Knows} {r : Ra γ} {D : Ends} (p : PostG X I0 H0 W Kx I m G GL r D) (s : Same I I1) : PostG X I0 H0 W Kx I1 m G GL r D := by
  cases m with
  | ok a => cases a with
    | nx s => exact fun I' H' σ' q => p I' H' σ' (Same.trans ‹Same I I1› q)
    | bk s => exact fun I' H' σ' q => p I' H' σ' (Same.trans ‹Same I I1› q)
    | ct s => exact fun I' H' σ' q => p I' H' σ' (Same.trans ‹Same I I1› q)
    | rt y => exact p
  | err e => exact p
  | stuck => exact p
def J1G (X : Cx) (I0 H0 : Hp) (W : WX) (Kx : KnowsX) (G : Knows) (st : Stmt) (m : Res (Fl S L γ)) (G' : S → Knows) (GL : L → Knows) (r : Ra γ) : Prop := ∀ (I H : Hp) (σ : St) (D : Ends), G I H σ → PostG X I0 H0 W Kx I m G' GL r D → wS X st D σ H
def JG (X : Cx) (I0 H0 : Hp) (W : WX) (Kx : KnowsX) (G : Knows) (ss : List Stmt) (m : Res (Fl S L γ)) (G' : S → Knows) (GL : L → Knows) (r : Ra γ) : Prop := ∀ (I H : Hp) (σ : St) (D : Ends), G I H σ → PostG X I0 H0 W Kx I m G' GL r D → wB X ss D σ H
variable {X : Cx} {I0 H0 : Hp} {W : WX} {Kx : KnowsX} {G : Knows} {ctx : List (Option SF)} {mem : List MF} {e a b c o iter : Expr} {es bs : List Expr} {st : Stmt} {ss s1 s2 body : List Stmt} {pos pos' : Pos} {n : Str} {ra : Ra α} {rr : Ra γ} {ma : Res α} {mc : Res Bool} {GL : L → Knows}
theorem JG.nil {s : S} {G' : S → Knows} (h : ∀ I H σ, G I H σ → G' s I H σ) : JG X I0 H0 W Kx G [] (.ok (.nx s)) G' GL rr := fun I H σ D g p => b_nil (p I H σ (Same.refl _) (h _ _ _ g))
theorem JG.seq {m : Res S} {G1 : S → Knows} {f : S → Res (Fl T L γ)} {G2 : T → Knows} (j : J1 X W Kx G st m G1) (k : ∀ s, JG X I0 H0 W Kx (G1 s) ss (f s) G2 GL rr) : JG X I0 H0 W Kx G (st :: ss) (m.bind f) G2 GL rr := fun I H σ D g p => by
  refine b_cons (j I H σ _ g ?_)
  cases m with
  | ok s => exact fun I' H' σ' si g' => k s I' H' σ' D g' (PostG.up p si)
  | err e => exact p
  | stuck => exact p
theorem JR.seqG {m : Res (Fl S L γ)} {G1 : S → Knows} {f : S → Res γ} (j : J1G X I0 H0 W Kx G st m G1 GL rr) (k : ∀ s, JR X I0 H0 W Kx (G1 s) ss (f s) rr) : JR X I0 H0 W Kx G (st :: ss) (m.bind (Fl.out f)) rr := fun I H σ D g p => by
  refine b_cons (j I H σ _ g ?_)
  cases m with
  | ok a => cases a with
    | nx s => exact fun I' H' σ' si g' => k s I' H' σ' D g' p
    | bk s => exact p.elim
    | ct s => exact p.elim
    | rt s => exact p
  | err e => exact p
  | stuck => exact p
theorem JG.rt {m : Res γ} {G' : S → Knows} (j : JR X I0 H0 W Kx G ss m rr) : JG X I0 H0 W Kx G ss (m.bind fun y => .ok (.rt y)) G' GL rr := fun I H σ D g p => by
  refine j I H σ D g ?_
  cases m with
  | ok y => exact p
  | err e => exact p
  | stuck => exact p
end
end L2.Tr
namespace L2.Tr
open PySem PySem.Spec PyProof.Rows
def Fl.get {S L γ : Type} : Fl S L γ → Res S
  | .nx s => .ok s
  | _ => .stuck
theorem J1.ofG {S L γ : Type} {X : Cx} {I0 H0 : Hp} {W : WX} {Kx : KnowsX} {G : Knows} {st : Stmt} {m : Res (Fl S L γ)} {G' : S → Knows} {rr : Ra γ} (j : J1G X I0 H0 W Kx G st m G' (fun _ _ _ _ => False) rr) : J1 X W Kx G st (m.bind Fl.get) G' := fun I H σ D g p => by
  refine j I H σ D g ?_
  cases m with
  | ok a => cases a with
    | nx s => exact p
    | bk s => exact p.elim
    | ct s => exact p.elim
    | rt s => exact p.elim
  | err e => exact p
  | stuck => exact p
end L2.Tr

namespace L2.Tr
open PySem PySem.Spec PyProof.Rows
abbrev big : Nat := 2 ^ 2000000
def fitI (n : Int) : Prop := n.natAbs ≤ big
def fits (q : Rat) : Prop := q.num.natAbs ≤ big ∧ q.den ≤ big
instance (n : Int) : Decidable (fitI n) := inferInstanceAs (Decidable (_ ≤ _))
instance (q : Rat) : Decidable (fits q) := inferInstanceAs (Decidable (_ ∧ _))
theorem den_nz (x : Rat) : (x.den : Int) ≠ 0 := by have := x.den_nz; omega
theorem qMk_okB {t b : Int} (hb : b ≠ 0) : qMk t b = .ok (Rat.divInt t b) := by unfold qMk; rw [if_neg hb]
def qEq (x : Rat) (y : Num) : Res Bool := .ok (decide (x = y.val))
theorem fd {x : Rat} (h : fits x) : ((x.den : Int)).natAbs ≤ big := by rw [Int.natAbs_natCast]; exact h.2
theorem add_divs (x y : Rat) : Rat.divInt (x.num * (y.den : Int) + y.num * (x.den : Int)) ((x.den : Int) * (y.den : Int)) = x + y := by
  conv => rhs; rw [← Rat.num_divInt_den x, ← Rat.num_divInt_den y, Rat.divInt_add_divInt _ _ (den_nz x) (den_nz y)]
theorem mul_divs (x y : Rat) : Rat.divInt (x.num * y.num) ((x.den : Int) * (y.den : Int)) = x * y := by
  conv => rhs; rw [← Rat.num_divInt_den x, ← Rat.num_divInt_den y, Rat.divInt_mul_divInt _ _]
theorem eq_dec (x y : Rat) : (if decide (x.num = y.num) = true then Res.ok (decide ((x.den : Int) = (y.den : Int))) else .ok false) = .ok (decide (x = y)) := by
  by_cases h : x = y
  · subst h; simp
  · rw [decide_eq_false h]
    by_cases h1 : x.num = y.num
    · rw [decide_eq_true h1, if_pos rfl, decide_eq_false]
      intro h2
      exact h (Rat.ext h1 (by exact_mod_cast h2))
    · rw [decide_eq_false h1, if_neg (by decide)]
theorem eq_dec1 (x : Rat) (n : Int) : (if decide ((x.den : Int) = 1) = true then Res.ok (decide (x.num = n)) else .ok false) = .ok (decide (x = (n : Rat))) := by
  have h := eq_dec x (n : Rat)
  rw [Rat.num_intCast, Rat.den_intCast] at h
  rw [← h]
  by_cases h1 : (x.den : Int) = 1 <;> by_cases h2 : x.num = n <;> simp [h1, h2]
def Sz (s : Nat) (q : Rat) : Prop := q.num.natAbs ≤ 2 ^ s ∧ q.den ≤ 2 ^ s
theorem sz_divInt {t b : Int} {s : Nat} (h1 : t.natAbs ≤ 2 ^ s) (h2 : b.natAbs ≤ 2 ^ s) : Sz s (Rat.divInt t b) := by
  by_cases hb : b = 0
  · subst hb
    rw [Rat.divInt_zero]
    exact ⟨by simp, Nat.one_le_two_pow⟩
  · refine ⟨?_, ?_⟩
    · obtain ⟨m, m0, e1, _⟩ := Rat.divInt_num_den hb (show Rat.divInt t b = ⟨(Rat.divInt t b).num, (Rat.divInt t b).den, (Rat.divInt t b).den_nz, (Rat.divInt t b).reduced⟩ from rfl)
      have h3 : t.natAbs = (Rat.divInt t b).num.natAbs * m.natAbs := by rw [← Int.natAbs_mul, ← e1]
      refine Nat.le_trans ?_ h1
      rw [h3]
      exact Nat.le_mul_of_pos_right _ (by omega)
    · rw [Rat.den_divInt, if_neg hb]
      exact Nat.le_trans (Nat.div_le_self _ _) h2
theorem sz_int {n : Int} {s : Nat} (h : n.natAbs ≤ 2 ^ s) : Sz s (n : Rat) := by
  unfold Sz
  rw [Rat.num_intCast, Rat.den_intCast]
  exact ⟨h, Nat.one_le_two_pow⟩
theorem pow2_mul {a b s t : Nat} (ha : a ≤ 2 ^ s) (hb : b ≤ 2 ^ t) : a * b ≤ 2 ^ (s + t) := by
  rw [Nat.pow_add]; exact Nat.mul_le_mul ha hb
theorem Sz.mul {s t : Nat} {x y : Rat} (hx : Sz s x) (hy : Sz t y) : Sz (s + t) (x * y) := by
  rw [← mul_divs]
  refine sz_divInt ?_ ?_
  · rw [Int.natAbs_mul]; exact pow2_mul hx.1 hy.1
  · rw [Int.natAbs_mul, Int.natAbs_natCast, Int.natAbs_natCast]; exact pow2_mul hx.2 hy.2
theorem Sz.add {s t : Nat} {x y : Rat} (hx : Sz s x) (hy : Sz t y) : Sz (s + t + 1) (x + y) := by
  rw [← add_divs]
  have a1 := pow2_mul hx.1 hy.2
  have a2 := pow2_mul hx.2 hy.1
  have a3 := pow2_mul hx.2 hy.2
  have e : 2 ^ (s + t + 1) = 2 ^ (s + t) + 2 ^ (s + t) := by rw [Nat.pow_succ]; omega
  refine sz_divInt ?_ ?_
  · refine Nat.le_trans (Int.natAbs_add_le _ _) ?_
    rw [Int.natAbs_mul, Int.natAbs_mul, Int.natAbs_natCast, Int.natAbs_natCast, Nat.mul_comm y.num.natAbs]
    omega
  · rw [Int.natAbs_mul, Int.natAbs_natCast, Int.natAbs_natCast]; omega
theorem Sz.neg {s : Nat} {x : Rat} (hx : Sz s x) : Sz s (-x) := by
  refine ⟨?_, ?_⟩
  · show (-x.num).natAbs ≤ _; rw [Int.natAbs_neg]; exact hx.1
  · exact hx.2
theorem Sz.sub {s t : Nat} {x y : Rat} (hx : Sz s x) (hy : Sz t y) : Sz (s + t + 1) (x - y) := by
  rw [Rat.sub_eq_add_neg]; exact hx.add hy.neg
theorem Sz.inv {s : Nat} {x : Rat} (hx : Sz s x) : Sz s x⁻¹ := by
  rw [Rat.inv_def]
  exact sz_divInt (by rw [Int.natAbs_natCast]; exact hx.2) hx.1
theorem Sz.div {s t : Nat} {x y : Rat} (hx : Sz s x) (hy : Sz t y) : Sz (s + t) (x / y) := by
  rw [Rat.div_def]; exact hx.mul hy.inv
end L2.Tr

namespace PySem.W
open PySem PySem.Calls PyProof.Rows
section
variable {prog : Program} {w : World} {A : Around} {E : Value → Shared → Prop} {s : Shared} {K : Frag} {x C dx L f : Addr} {h₀ : Heap} {m : Str → Option Value} {ox : Obj} {od : Option Obj} {nm : String}
end
end PySem.W
namespace L2.Tr
open PySem PySem.Spec PyProof.Rows He
section
variable {α β γ δ S : Type} {X : Cx} {I0 H0 : Hp} {W : WX} {Kx : KnowsX} {ctx : List (Option SF)} {mem : List MF} {e a b c o : Expr} {es bs : List Expr} {pos pos' : Pos} {n : Str} {ra : Ra α} {rb : Ra β} {rc : Ra γ} {ma : Res α} {mb : Res β}
variable {f f' : Addr} {k k' : Nat} {g : Rat × Num × Unit → Res γ} {g' : Rat × Int × Unit → Res γ}
end
end L2.Tr

namespace L2.Tr
open PySem PySem.Spec PyProof.Rows
section
variable {K : PySem.W.Frag} {x qual : Str} {params : Arguments} {body : List Stmt} {scope : Scope} {kws : List (Str × V)} {f : Addr} {fd : FuncData} {ps : List Str}
end
section
variable {α β γ δ ε : Type} {X : Cx} {I0 H0 : Hp} {W : WX} {ctx : List (Option SF)} {mem : List MF} {e a b c o : Expr} {es bs : List Expr} {kws : List Keyword} {pos pos' kpos : Pos} {n x : Str} {nm : Option Str} {ra : Ra α} {rb : Ra β} {rc : Ra γ} {ma : Res α} {mb : Res β}
variable {R : Hp → Hp → List V → δ → Prop} {R' : Hp → Hp → List V → ε → Prop} {md : Res δ} {me : Res ε} {g : δ → ε → Res γ} {ks : List Str}
end
end L2.Tr
namespace L2.Tr
open PySem PySem.Spec PyProof.Rows
section
variable {γ S L : Type} {X : Cx} {I0 H0 : Hp} {W : WX} {Kx : KnowsX} {G : Knows} {st : Stmt} {ss : List Stmt} {mem : List MF} {rr : Ra γ}
theorem J1.cx {m : Res S} {c c' : S → List (Option SF)} {me : S → List MF} (j : J1 X W Kx G st m (fun s => Stt I0 H0 (c s) (me s))) (h : ∀ s, c s = c' s := by intro _; rfl) : J1 X W Kx G st m (fun s => Stt I0 H0 (c' s) (me s)) := by
  have e : c = c' := funext h
  rw [← e]; exact j
theorem JR.at {m : Res γ} {c c' : List (Option SF)} (j : JR X I0 H0 W Kx (Stt I0 H0 c' mem) ss m rr) (h : c = c' := by rfl) : JR X I0 H0 W Kx (Stt I0 H0 c mem) ss m rr := by
  rw [h]; exact j
end
end L2.Tr

namespace L2.Tr
open PySem PySem.Spec PyProof.Rows
class Bd (x : Int) (s : outParam Nat) : Prop where
  le : x.natAbs ≤ 2 ^ s
class NZ (x : Int) : Prop where
  ne : x ≠ 0
class SzC (q : Rat) (s : outParam Nat) : Prop where
  sz : Sz s q
instance {x y : Int} {s t : Nat} [h : Bd x s] [k : Bd y t] : Bd (x * y) (s + t) := ⟨by rw [Int.natAbs_mul]; exact pow2_mul h.le k.le⟩
theorem pow_add1 (s t : Nat) : 2 ^ s + 2 ^ t ≤ 2 ^ (s + t + 1) := by
  have a := Nat.pow_le_pow_right (show 0 < 2 by decide) (show s ≤ s + t by omega)
  have b := Nat.pow_le_pow_right (show 0 < 2 by decide) (show t ≤ s + t by omega)
  rw [Nat.pow_succ]; omega
instance {x y : Int} {s t : Nat} [h : Bd x s] [k : Bd y t] : Bd (x + y) (s + t + 1) := ⟨by
  have := Int.natAbs_add_le x y; have := h.le; have := k.le; have := pow_add1 s t; omega⟩
instance {x y : Int} {s t : Nat} [h : Bd x s] [k : Bd y t] : Bd (x - y) (s + t + 1) := ⟨by
  have := Int.natAbs_sub_le x y; have := h.le; have := k.le; have := pow_add1 s t; omega⟩
instance {x : Int} {s : Nat} [h : Bd x s] : Bd (-x) s := ⟨by rw [Int.natAbs_neg]; exact h.le⟩
instance {x : Int} {s : Nat} [h : Bd x s] : Bd (x.natAbs : Int) s := ⟨by rw [Int.natAbs_natCast]; exact h.le⟩
instance : Bd 0 0 := ⟨by decide⟩
instance : Bd 1 0 := ⟨by decide⟩
instance {x y : Int} [h : NZ x] [k : NZ y] : NZ (x * y) := ⟨Int.mul_ne_zero h.ne k.ne⟩
instance {x : Int} [h : NZ x] : NZ (-x) := ⟨Int.neg_ne_zero.mpr h.ne⟩
instance {x y : Rat} {s t : Nat} [h : SzC x s] [k : SzC y t] : SzC (x + y) (s + t + 1) := ⟨h.sz.add k.sz⟩
instance {x y : Rat} {s t : Nat} [h : SzC x s] [k : SzC y t] : SzC (x - y) (s + t + 1) := ⟨h.sz.sub k.sz⟩
instance {x y : Rat} {s t : Nat} [h : SzC x s] [k : SzC y t] : SzC (x * y) (s + t) := ⟨h.sz.mul k.sz⟩
instance {x y : Rat} {s t : Nat} [h : SzC x s] [k : SzC y t] : SzC (x / y) (s + t) := ⟨h.sz.div k.sz⟩
instance {x : Rat} {s : Nat} [h : SzC x s] : SzC (-x) s := ⟨h.sz.neg⟩
instance {n : Int} {s : Nat} [h : Bd n s] : SzC (n : Rat) s := ⟨sz_int h.le⟩
instance {n : Int} {m : Int} {s t : Nat} [h : Bd n s] [k : Bd m t] : SzC (Rat.divInt n m) (s + t) := ⟨sz_divInt (Nat.le_trans h.le (Nat.pow_le_pow_right (by decide) (by omega))) (Nat.le_trans k.le (Nat.pow_le_pow_right (by decide) (by omega)))⟩
instance : SzC 0 0 := ⟨⟨by decide, by decide⟩⟩
instance : SzC 1 0 := ⟨⟨by decide, by decide⟩⟩
section
variable {x y : Rat} {n : Int} {s t : Nat} [h : SzC x s]
end
end L2.Tr

namespace L2.Tr
open PySem PySem.Spec PyProof.Rows
section
variable {α β γ δ S L : Type} {X : Cx} {I0 H0 I H : Hp} {W : WX} {Kx : KnowsX} {G : Knows} {ctx : List (Option SF)} {mem : List MF} {e a b c o : Expr} {es bs : List Expr} {st : Stmt} {ss s1 s2 : List Stmt} {pos pos' : Pos} {n : Str} {ra : Ra α} {rb : Ra β} {rr : Ra γ} {ma : Res α} {mb : Res β} {σ : St}
def JM (X : Cx) (I0 H0 : Hp) (W : WX) (ctx : List (Option SF)) (mem : List MF) (e : Expr) (m : Res (List α)) (r : Rp α) : Prop :=
  ∀ (I H : Hp) (σ : St) (Q : VK), Stt I0 H0 ctx mem I H σ → (match m with
    | .ok xs => ∀ I1 H1 l vs, Fm I H I1 H1 → H l = none → I1 l = none → H1 l = some (.lst vs) → Paired (r I1) vs xs → Q (.ref l) H1
    | .err e => ∀ I' H' cls d, Fm I H I' H' → Fr H d ∧ ExR X.K I' H' e cls d → W cls d σ H'
    | .stuck => False) → wE X e σ H Q
theorem mpost {Q : VK} {I H I1 H1 : Hp} {r : Rp α} {xs : List α} (p : ∀ I1 H1 l vs, Fm I H I1 H1 → H l = none → I1 l = none → H1 l = some (.lst vs) → Paired (r I1) vs xs → Q (.ref l) H1) {l : Addr} {vs : List V} (f : Fm I H I1 H1) (hl : H1 l = none) (pr : Paired (r I1) vs xs) : Q (.ref l) (upd H1 l (.lst vs)) :=
  p I1 (upd H1 l (.lst vs)) l vs (f.trans (Fm.newM f.ih hl)) (f.h.free hl) (f.ih.free hl) upd_same pr
theorem Fm.ice {I H I1 H1 : Hp} {l : Addr} {o : HO} (f : Fm I H I1 H1) (hl : H l = none) (hI : I1 l = none) (h : H1 l = some o) : Fm I H (upd I1 l o) H1 ∧ Same I1 (upd I1 l o) := by
  have sm : Same I1 (upd I1 l o) := fun b u e => by
    have : b ≠ l := fun q => by rw [q, hI] at e; cases e
    rw [upd_ne this]; exact e
  refine ⟨⟨f.i.trans sm, f.h, fun b u e => ?_, fun b e nn => ?_⟩, sm⟩
  · by_cases hb : b = l
    · subst hb; rw [upd_same] at e; cases e; exact h
    · rw [upd_ne hb] at e; exact f.ih _ _ e
  · have : b ≠ l := fun q => nn (q ▸ hl)
    rw [upd_ne this]; exact f.mu b e nn
theorem JE.ofM {r : Rp α} [mo : Mo r] {m : Res (List α)} (j : JM X I0 H0 W ctx mem e m r) : JE X I0 H0 W ctx mem e m (rp (rL r)) := fun I H σ Q st p => by
  refine j I H σ Q st ?_
  cases m with
  | ok xs =>
    intro I1 H1 l vs f hl hI h1 pr
    obtain ⟨f2, sm⟩ := f.ice hl hI h1
    exact p _ H1 _ f2 ⟨l, vs, rfl, upd_same, Paired.mapP pr fun _ _ z => mo.up sm z⟩
  | err e => exact p
  | stuck => exact p
theorem JM.lst {k : Nat} {r : Rp α} {m : Res (List α)} (j : JA X I0 H0 W ctx mem es m (lR k (rp r))) (hk : k ≤ sizeLine := by decide) : JM X I0 H0 W ctx mem (.List es pos) m r := fun I H σ Q st p => by
  refine w_lst (j I H σ _ st ?_)
  cases m with
  | ok xs => exact fun I1 H1 vs f1 r1 => ⟨by rw [r1.1]; exact hk, fun q hq => mpost p f1 hq r1.2⟩
  | err e => exact p
  | stuck => exact p
end
end L2.Tr

namespace L2.Tr
open PySem PySem.Spec PyProof.Rows
section
variable {α β γ δ S L : Type} {X : Cx} {I0 H0 I H : Hp} {W : WX} {Kx : KnowsX} {G : Knows} {ctx : List (Option SF)} {mem : List MF} {e a b c o : Expr} {es bs : List Expr} {st : Stmt} {ss s1 s2 : List Stmt} {pos pos' p2 : Pos} {n : Str} {ra : Ra α} {rb : Ra β} {rr : Ra γ} {ma : Res α} {mb : Res β} {σ : St} {r : Rp α}
def rH (r : Rp α) : Ra (List α) := fun I H v xs => ∃ l vs, v = .ref l ∧ H l = some (.lst vs) ∧ Paired (r I) vs xs
instance [m : Mo r] : MoA (rH r) := ⟨fun s t ⟨l, vs, e, h, p⟩ => ⟨l, vs, e, t _ _ h, Paired.mapP p fun _ _ q => m.up s q⟩⟩
def JO (X : Cx) (I0 H0 : Hp) (W : WX) (ctx : List (Option SF)) (mem : List MF) (e : Option Expr) (m : Res (Option Int)) : Prop := match e with
  | none => m = .ok none
  | some e => ∃ mi : Res Int, m = mi.bind (fun i => .ok (some i)) ∧ JE X I0 H0 W ctx mem e mi (rp rInt)
theorem JO.no : JO X I0 H0 W ctx mem none (.ok none) := rfl
end
end L2.Tr

namespace L2.Tr
open PySem PySem.Spec PyProof.Rows
section
variable {α β γ δ S L : Type} {X : Cx} {I0 H0 I H : Hp} {W : WX} {Kx : KnowsX} {G : Knows} {ctx : List (Option SF)} {mem : List MF} {e a b c o ix : Expr} {es bs : List Expr} {st : Stmt} {ss s1 s2 : List Stmt} {pos pos' p2 : Pos} {n : Str} {ra : Ra α} {rb : Ra β} {rr : Ra γ} {ma : Res α} {mb : Res β} {σ : St} {r : Rp α}
end
end L2.Tr

namespace L2.Tr
open PySem PySem.Spec PyProof.Rows
abbrev W0 : WX := fun _ _ _ _ => False
theorem takes0 {X : Cx} : L2N.Takes X W0 := fun u s' ⟨_, _, _, _, _, _, _, _, _, _, _, _, _, _, _, _, w⟩ => w.elim
section
variable {α β γ δ S L : Type} {X : Cx} {I0 H0 I H : Hp} {W : WX} {Kx : KnowsX} {ctx : List (Option SF)} {mem : List MF} {e a b c o elt iter : Expr} {pos pos' p2 : Pos} {n : Str} {σ : St} {r : Rp α} {rb : Rp β}
end
end L2.Tr

namespace L2.Tr
open PySem PySem.Spec PyProof.Rows
section
variable {α γ S L : Type} {X : Cx} {I0 H0 I H : Hp} {W : WX} {Kx : KnowsX} {G : Knows} {st : Stmt} {ss : List Stmt} {ctx ctx' : List (Option SF)} {mem mem' : List MF} {rr : Ra γ} {σ : St}
variable (i j : Nat) {r : Rp α} [mo : Mo r] {l : Addr} {xs : List α}
end
end L2.Tr

namespace L2.Tr
open PySem PySem.Spec PyProof.Rows
section
variable {α β γ δ S L : Type} {X : Cx} {I0 H0 I H : Hp} {W : WX} {Kx : KnowsX} {ctx : List (Option SF)} {mem : List MF} {e a b c o : Expr} {pos pos' p2 : Pos} {n : Str} {σ : St} {r : Rp α} {ra : Ra α}
end
end L2.Tr

namespace PySem.W
open PySem PySem.Spec PySem.Calls PyProof.Rows
section
variable {prog : Program} {w : World} {A : Around} {E : Value → Shared → Prop} {s : Shared} {K : Frag} {x C f : Addr} {ox : Obj} {od : Option Obj}
end
end PySem.W
namespace L2.Tr
open PySem PySem.Spec PyProof.Rows He
section
variable {α β γ δ S L : Type} {X : Cx} {I0 H0 I H : Hp} {W : WX} {Kx : KnowsX} {ctx : List (Option SF)} {mem : List MF} {e a b c o : Expr} {es : List Expr} {pos pos' p2 : Pos} {n : Str} {σ : St} {Q : VK} {r : Rp α} {ra : Ra α} {rb : Ra β} {rc : Ra γ} {ma : Res α} {mb : Res β} {md : Res δ}
def rIns (C : Addr) (gs : α → List (Str × SF)) : Rp α := fun I v x => ∃ a dx fs, v = .ref a ∧ I a = some (.ins C dx fs) ∧ FldR I fs (gs x)
instance {C : Addr} {gs : α → List (Str × SF)} : Mo (rIns C gs) := ⟨fun s ⟨a, dx, fs, e, h, f⟩ => ⟨a, dx, fs, e, s _ _ h, FldR.up s f⟩⟩
theorem FldR.none {I : Hp} {f : Str} : ∀ {fs : List (Str × V)} {gs : List (Str × SF)}, FldR I fs gs → gs.lookup f = none → fs.lookup f = none
  | [], [], _, _ => rfl
  | (k, v) :: fs, (k', q) :: gs, ⟨h1, h2, h3⟩, e => by
    cases (show k = k' from h1)
    rw [List.lookup_cons] at e ⊢
    by_cases hk : (f == k) = true
    · rw [hk] at e; cases e
    · rw [Bool.not_eq_true] at hk
      rw [hk] at e ⊢
      exact FldR.none h3 e
  | [], _ :: _, h, _ => h.elim
  | _ :: _, [], h, _ => h.elim
structure PropP (K : PySem.W.Frag) (C : Addr) (f : Str) (p g : Addr) : Prop where
  po : PropOf K C f p g
structure SMet (K : PySem.W.Frag) (C : Addr) (mc : Value) (m : Str) (p g : Addr) : Prop where
  rd : PySem.W.readsIn K C mc = true
  ga : PySem.W.specialIn K (.ref C) "__getattribute__" = some (some (.builtin "type.__getattribute__"))
  at_ : PySem.W.findCls K (.ref C) mc m = some (.get (.builtin "staticmethod.__get__") (.ref p) .none (.ref C))
  rc : ∃ rest, PySem.W.recIn K p "staticmethod" = some (.ref g :: rest)
  kp : PySem.W.keepIn K (.ref g) = true
def rSq (K : PySem.W.Frag) (r : Ra α) : Ra (List α) := fun I H v xs => ∃ l vs, v = .ref l ∧ (SqL K H l vs ∨ SqT K H l vs) ∧ Paired (r I H) vs xs
theorem Same.seqT {K : PySem.W.Frag} {H H' : Hp} {a : Addr} {xs : List V} (s : Same H H') (h : SqT K H a xs) : SqT K H' a xs := by
  rcases h with h | h
  · rcases h with h | ⟨h1, h2⟩
    · exact .inl (.inl (s _ _ h))
    · exact .inl (.inr ⟨h1, s _ _ h2⟩)
  · exact .inr h
instance {K : PySem.W.Frag} {r : Ra α} [m : MoA r] : MoA (rSq K r) := ⟨fun s t ⟨l, vs, e, h, p⟩ => ⟨l, vs, e, h.imp (fun h => t.seq h) (fun h => Same.seqT t h), Paired.mapP p fun _ _ q => m.up s t q⟩⟩
theorem paired_map {F : β → α → Prop} {G : β → γ → Prop} {f : α → γ} (h : ∀ v x, F v x → G v (f x)) : ∀ {vs : List β} {xs : List α}, Paired F vs xs → Paired G vs (xs.map f)
  | _, _, .nil => .nil
  | _, _, .cons a t => .cons (h _ _ a) (paired_map h t)
theorem JM.map {m : Res (List α)} {rb : Rp β} {f : α → β} (j : JM X I0 H0 W ctx mem e m r) (h : ∀ I H v x, rp r I H v x → rp rb I H v (f x)) : JM X I0 H0 W ctx mem e (m.bind fun xs => .ok (xs.map f)) rb := fun I H σ Q st p => j I H σ Q st (by
  cases m with
  | ok xs => exact fun I1 H1 l vs f1 a b c pr => p I1 H1 l vs f1 a b c (paired_map (h I1 H1) pr)
  | err e => exact p
  | stuck => exact p)
end
end L2.Tr

namespace L2.Tr
open PySem PySem.Spec PyProof.Rows He
section
variable {α β γ δ S L : Type} {X : Cx} {I0 H0 I H : Hp} {W : WX} {Kx : KnowsX} {G : Knows} {ctx : List (Option SF)} {mem : List MF} {e a b c o : Expr} {es : List Expr} {ss : List Stmt} {pos pos' p2 : Pos} {n : Str} {σ : St} {Q : VK} {r : Rp α} {ra : Ra α} {rb : Ra β} {rc : Ra γ} {ma : Res α} {mb : Res β} {md : Res δ} {R : Hp → Hp → List V → δ → Prop}
def rNew (H0 : Hp) (r : Rp α) : Ra (List α) := fun I H v xs => ∃ l vs, v = .ref l ∧ H0 l = none ∧ I l = none ∧ H l = some (.lst vs) ∧ Paired (r I) vs xs
def spN (K : PySem.W.Frag) (R : Hp → Hp → List V → δ → Prop) (m : δ → Res (List α)) (r : Rp α) : Sp := fun vs H Q E => ∃ I d, Same I H ∧ R I H vs d ∧ PostE K (m d) (rNew H r) I H E Q
theorem FnN.nice {P : Program} {w : World} {K : PySem.W.Frag} {mg : Str → Option Value} {base : Heap} {k : Nat} {f : Addr} {m m' : δ → Res (List α)} (F : FnR P w K mg base (L2N.CX P w) k f (spN K R m r)) (h : ∀ d, m' d = .stuck ∨ m' d = m d) : FnR P w K mg base (L2N.CX P w) k f (spN K R m' r) := F.imp fun vs H Q E ⟨I, d, s, r, p⟩ => ⟨I, d, s, r, by
  rcases h d with e | e
  · rw [show m' d = _ from e] at p; exact p.elim
  · rw [← e]; exact p⟩
def rTu (R : Hp → Hp → List V → δ → Prop) : Rp δ := fun I v x => ∃ l vs, v = .ref l ∧ I l = some (.tup vs) ∧ R I I vs x
instance [m : MoR R] : Mo (rTu R) := ⟨fun s ⟨l, vs, e, h, p⟩ => ⟨l, vs, e, s _ _ h, m.up s s p⟩⟩
class Ice (R : Hp → Hp → List V → δ → Prop) : Prop where
  ice : ∀ {I H H' : Hp} {vs : List V} {x : δ}, R I H vs x → R I H' vs x
instance : Ice aNil := ⟨fun h => h⟩
instance [m : Ice R] : Ice (aCons (rp r) R) := ⟨fun ⟨v, ws, e, h, h'⟩ => ⟨v, ws, e, h, m.ice h'⟩⟩
end
theorem DX.funD {K : PySem.W.Frag} {d : DX} (e : fnX K (d.at_ K) = d.val) (c : d.ok K = true) : ∃ fd, FunD K d.name d.qual d.params d.body d.scope (d.dfl.map (Dv.v K)) (d.kwd.map fun q => (q.1, q.2.v K)) (d.at_ K) fd := by
  obtain ⟨kp, c2⟩ := ba c
  unfold fnX at e
  generalize ha : d.at_ K = ad at *
  cases q : K.lookup ad with
  | none => rw [q] at c2; cases c2
  | some ob =>
    obtain ⟨oc, od, dt, osl⟩ := ob
    rw [q] at c2 e
    cases dt with
    | func fd =>
      obtain ⟨n1, n2, n3, n4, n5, n6, n7, n8, n9, n10, n11, n12, n13, n14, n15⟩ := fd
      have e2 : (some (n1, n2, n3, n4, n5, n6, n7, n15) : FnW) = some (d.name, d.qual, d.params, .stmts d.body, d.scope, mainGlobals, [], builtinsNs) := e
      simp only [Option.some.injEq, Prod.mk.injEq] at e2
      obtain ⟨h1, h2, h3, h4, h5, h6, h7, h8⟩ := e2
      subst h1 h2 h3 h4 h5 h6 h7 h8
      have c3 : (PySem.W.codeIn K n13 d.qual && (dflB K n8 (d.dfl.map (Dv.v K)) && kwdB K n9 (d.kwd.map fun q => (q.1, q.2.v K)))) = true := c2
      obtain ⟨k1, k2⟩ := ba c3
      obtain ⟨k3, k4⟩ := ba k2
      exact ⟨_, ⟨oc, od, n8, n9, n10, n11, n12, n13, n14, osl, rfl, q, k1, dflB_ok k3, kwdB_ok k4⟩, kp⟩
    | _ => cases c2
def SaysY (fs : List FB) (fn : List DX) (K : PySem.W.Frag) : Prop := obsY fs fn K = valY fn
theorem SaysY.fact {fs : List FB} {fn : List DX} {K : PySem.W.Frag} (c : SaysY fs fn K) (i : Nat) {f : FB} (h : fs[i]? = some f := by rfl) : f K = true := by
  have c1 := (ba (show ((fs.all fun f => f K) && fn.all fun d => d.ok K) = true from congrArg (fun z : AlX => z.1) c)).1
  exact List.all_eq_true.mp c1 f (List.mem_of_getElem? h)
theorem SaysY.def_ {fs : List FB} {fn : List DX} {K : PySem.W.Frag} (c : SaysY fs fn K) (i : Nat) {d : DX} (h : fn[i]? = some d := by rfl) : ∃ fd, FunD K d.name d.qual d.params d.body d.scope (d.dfl.map (Dv.v K)) (d.kwd.map fun q => (q.1, q.2.v K)) (d.at_ K) fd := by
  have c2 := (ba (show ((fs.all fun f => f K) && fn.all fun d => d.ok K) = true from congrArg (fun z : AlX => z.1) c)).2
  have e : fn.map (fun d => fnX K (d.at_ K)) = fn.map DX.val := congrArg (fun z : AlX => z.2) c
  have e2 : (fn.map fun d => fnX K (d.at_ K))[i]? = (fn.map DX.val)[i]? := by rw [e]
  rw [List.getElem?_map, List.getElem?_map, h] at e2
  exact DX.funD (Option.some.inj e2) (List.all_eq_true.mp c2 d (List.mem_of_getElem? h))
end L2.Tr

namespace L2.Tr
open PySem PySem.Spec PyProof.Rows He
section
variable {α β γ δ S L : Type} {X : Cx} {I0 H0 I H : Hp} {W : WX} {Kx : KnowsX} {G : Knows} {ctx : List (Option SF)} {mem : List MF} {e a b c o : Expr} {es : List Expr} {st : Stmt} {ss s1 : List Stmt} {pos pos' p2 : Pos} {n : Str} {σ : St} {Q : VK} {r : Rp α} {ra : Ra α} {rb : Ra β} {rc : Ra γ} {rr : Ra γ} {ma : Res α} {mb : Res β} {mc : Res Bool} {md : Res δ} {R : Hp → Hp → List V → δ → Prop} {K : PySem.W.Frag}
end
end L2.Tr

namespace L2.Tr
open PySem PySem.Spec PyProof.Rows
theorem Res.okb {α β : Type} (a : α) (f : α → Res β) : (Res.ok a).bind f = f a := by
  have h : ∀ m : Res α, m = .ok a → m.bind f = f a := fun m e => by subst e; rfl
  exact h _ rfl
section
variable {α β γ S L : Type} {m : Res α} {P P' : α → Prop} {f : α → Res β} {Q : β → Prop}
end
theorem fdivI_pos {x y : Int} (h : 0 < y) (hl : y < 2 ^ 4000) : fdivI x y = .ok (x / y) := by
  have e : y.natAbs ≤ 2 ^ 4000 := by omega
  have h1 := log2_mono e
  rw [Nat.log2_two_pow] at h1
  rw [fdivI_ok (by omega) (by omega), Int.fdiv_eq_ediv_of_nonneg _ (by omega)]
theorem modI_pos {x y : Int} (h : 0 < y) : modI x y = .ok (x % y) := by
  rw [modI_ok (by omega), Int.fmod_eq_emod_of_nonneg _ (by omega)]
def DB (D B : Nat) (q : Rat) : Prop := 0 < D ∧ ∃ z : Int, q = Rat.divInt z (D : Int) ∧ z.natAbs ≤ B
theorem DB.int (n : Int) : DB 1 n.natAbs (n : Rat) := ⟨by decide, n, (Rat.num_divInt_den (n : Rat)).symm, Nat.le_refl _⟩
end L2.Tr
namespace L2.Tr
open PySem PySem.Spec PyProof.Rows
abbrev Pr := Int × Int × Unit
def pv (p : Pr) : Rat := Rat.divInt p.1 p.2.1
end L2.Tr

namespace L2.Tr
open PySem PySem.Spec PyProof.Rows He
section
variable {α β γ δ ζ S L : Type} {X : Cx} {I0 H0 I H : Hp} {W : WX} {Kx : KnowsX} {G : Knows} {ctx : List (Option SF)} {mem : List MF} {e a b c o ix : Expr} {es : List Expr} {st : Stmt} {ss s1 : List Stmt} {pos pos' p2 : Pos} {n : Str} {σ : St} {Q : VK} {r : Rp α} {ra : Ra α} {rb : Ra β} {rc : Ra γ} {rr : Ra γ} {ma : Res α} {mb : Res β} {mc : Res Bool} {md : Res δ} {R : Hp → Hp → List V → δ → Prop} {K : PySem.W.Frag}
end
end L2.Tr

namespace L2.Tr
open PySem PySem.Spec PyProof.Rows He
section
variable {α β γ δ ε ζ S L : Type} {X : Cx} {I0 H0 I H : Hp} {W : WX} {Kx : KnowsX} {G : Knows} {ctx : List (Option SF)} {mem : List MF} {e a b c o ix : Expr} {es : List Expr} {st : Stmt} {ss s1 : List Stmt} {pos pos' p2 : Pos} {n : Str} {σ : St} {Q : VK} {r : Rp α} {ra : Ra α} {rb : Ra β} {rc : Ra γ} {rr : Ra γ} {ma : Res α} {mb : Res β} {mc : Res Bool} {md : Res δ} {me : Res ε} {R : Hp → Hp → List V → δ → Prop} {R' : Hp → Hp → List V → ε → Prop} {kws : List Keyword} {ks : List Str}
end
section
variable {K : PySem.W.Frag} {x qual : Str} {params : Arguments} {body : List Stmt} {scope : Scope} {kws : List (Str × V)} {f : Addr} {fd : FuncData} {ps : List Str}
end
end L2.Tr

namespace L2.Tr
open PySem PySem.Spec PyProof.Rows
section
variable {α β : Type} {n : Nat} {f g : Nat → α}
def vec (n : Nat) (f : Nat → α) : List α := (List.range n).map f
@[simp] theorem vec_len : (vec n f).length = n := by simp [vec]
end
def sm (f : Nat → Int) : Nat → Int
  | 0 => 0
  | n + 1 => sm f n + f n
section
variable {f g : Nat → Int} {n m : Nat} {c : Int}
@[simp] theorem sm_zero : sm f 0 = 0 := rfl
end
def smQ (f : Nat → Rat) : Nat → Rat
  | 0 => 0
  | n + 1 => smQ f n + f n
section
variable {f g : Nat → Rat} {n m : Nat} {c : Rat}
@[simp] theorem smQ_zero : smQ f 0 = 0 := rfl
end
end L2.Tr
namespace L2.Tr
open PySem PySem.Spec PyProof.Rows
end L2.Tr

namespace L2
open PySem PySem.Spec PyProof.Rows GenW
section
variable {M : Model} {A : Around} {R : GenEnd} {Y : Protocol} {n : Nat} {s₀ : Shared} {c : Code} {fs : List Frame} {s : Shared} {env : Env} {K : Flow → Sem PySem.Fin} {J : Value → Sem PySem.Fin} {gd : Bool → Bool} {lv : List Value → List Value}
end
section
variable {prog : Program} {w : World} {A : Around} {R : GenEnd} {Y : Protocol} {n : Nat} {s₀ : Shared} {fs : List Frame} {s : Shared} {env : Env}
end

section
variable {X : Cx} {tg : Expr}
end
end L2

namespace L2.Tr
open PySem PySem.Spec PyProof.Rows
section
variable {α β γ δ S T : Type}
variable {X : Cx} {I0 H0 : Hp} {W : WX} {Kx : KnowsX} {G : Knows} {ctx : List (Option SF)} {mem : List MF} {e a b c o iter : Expr} {es : List Expr} {st : Stmt} {ss body : List Stmt} {pos pos' pos2 : Pos} {n : Str} {r : Rp β} {out : List β}
abbrev gx (P : Program) (w : World) (K : PySem.W.Frag) (mg : Str → Option Value) (base : Heap) (N : List Str) (qual : Str) (scope : Scope) (f : Addr) (cdv : Value) (A : Around) (outer : List Env) (s : Shared) (H : Hp) (E : XK) (pn : List (Addr × Obj)) : Cx := gcxOf P w K mg base N qual scope f cdv A outer s H E pn
end
end L2.Tr

namespace L2.Tr
open PySem PySem.Spec PyProof.Rows
section
variable {α β γ δ S L : Type} {X : Cx} {I0 H0 : Hp} {W : WX} {Kx : KnowsX} {ctx : List (Option SF)} {mem : List MF} {e a : Expr} {ss : List Stmt} {pos : Pos} {rr : Ra γ} {r : Rp α}
def rOp (r : Rp α) : Rp (Option α) := fun I v x => match x with
  | none => v = .non
  | some y => r I v y
instance {r : Rp α} [m : Mo r] : Mo (rOp r) := ⟨fun {I I' v x} s h => by
  cases x with
  | none => exact h
  | some y => exact m.up s h⟩
def optM {β : Type} (x : Option α) (f1 : β) (f2 : α → β) : β := match x with
  | none => f1
  | some y => f2 y
class NoN (r : Rp α) : Prop where
  ne : ∀ I v x, r I v x → v ≠ .non
instance : NoN rInt := ⟨fun _ _ _ h z => by rw [show _ = V.int _ from h] at z; cases z⟩
instance : NoN rBl := ⟨fun _ _ _ h z => by rw [show _ = V.bl _ from h] at z; cases z⟩
instance : NoN rStr := ⟨fun _ _ _ h z => by rw [show _ = V.str _ from h] at z; cases z⟩
instance {K : PySem.W.Frag} : NoN (rFrac K) := ⟨fun _ _ _ ⟨_, _, e, _⟩ z => by rw [e] at z; cases z⟩
instance {K : PySem.W.Frag} : NoN (rNum K) := ⟨fun I v x h => by
  cases x with
  | i n => exact NoN.ne (r := rInt) I v n h
  | q q => exact NoN.ne (r := rFrac K) I v q h⟩
instance {r : Rp α} : NoN (rL r) := ⟨fun _ _ _ ⟨_, _, e, _⟩ z => by rw [e] at z; cases z⟩
instance {r : Rp α} : NoN (rT r) := ⟨fun _ _ _ ⟨_, _, e, _⟩ z => by rw [e] at z; cases z⟩
instance {R : Hp → Hp → List V → δ → Prop} : NoN (rTu R) := ⟨fun _ _ _ ⟨_, _, e, _⟩ z => by rw [e] at z; cases z⟩
instance {C : Addr} {gs : α → List (Str × SF)} : NoN (rIns C gs) := ⟨fun _ _ _ ⟨_, _, _, e, _⟩ z => by rw [e] at z; cases z⟩
theorem JG.dead {G : Knows} {G' : S → Knows} {GL : L → Knows} : JG X I0 H0 W Kx G ss (.stuck : Res (Fl S L γ)) G' GL rr := fun _ _ _ _ _ p => p.elim
end
end L2.Tr

namespace L2.Tr
open PySem PySem.Spec PyProof.Rows He
theorem pmk_oexN {X : Cx} {e : Expr} {es : List Expr} {ta : TA} {p pos : Pos} {CX : CXT} {x : Str} {C fI : Addr} {k : Nat} {fd : FuncData} {ps : List Str} {sp : Sp} (T : OexC X.K C) (iC : PySem.W.findIn X.K (.ref C) "__init__" = some (some (.ref fI))) (tI : PySem.W.typeIn X.K (.ref fI) = some (.type "function"))
    (F1 : FnOk X.prog X.w X.K X.mg X.base CX k fI fd ps sp) (hr : Room (k + 1) X.A) (hb : Binds X.K fd ps []) (hx : Passes CX X (fun _ _ _ => False)) (hg : Gl X x) (hm : X.mg x = some (.ref C)) (ha : PA X (e :: es) ta)
    (hdb : (x == ("__debug__" : Str)) = false := by decide) (he : starEach (e :: es) X.env = (false, eval e X.env) :: starEach es X.env := by rfl) (hpl : (backTo pos (starEach es X.env)).any (·.1) = false := by rfl) :
    L2N.PMk X (.Call (.Name x p) (e :: es) [] pos) (tMkO C sp [] ta) := by
  intro pins s σ H Q I h
  obtain ⟨nm, q, N, bs, bm, sn, sub, ab, col, dd, k0, k1, k2, k3, k5, hC, hbm⟩ := T.cls
  refine wpAny_Call_Name_kw (ld_glob I hg hm ?_ hdb)
  refine PySem.W.callWith_K (h₀ := X.base) I.ok.mod.kin T.kC (thn (ha.run pos pins s σ H _ I h) fun us s1 ⟨vs, H1, I1, r1, hz, q1⟩ => ⟨I1.kIn, ?_⟩) he hpl
  show wpAny _ _ (call (.ref C) us) _ _ _
  obtain ⟨hp, g, dr, tk, os⟩ := s1
  have hq := q1 (hp.objs.size + 1) (I1.hok.fresh (Nat.le_succ _))
  rw [List.append_nil] at hq
  have kk : ∀ b o, hp.get? b = some o → ((hp.push (PySem.W.kdv_tup us)).push (PySem.HandSPX.excO C hp.objs.size)).get? b = some o := fun b o e => Heap.get?_push_of_some _ (Heap.get?_push_of_some _ e)
  have hget : ((hp.push (PySem.W.kdv_tup us)).push (PySem.HandSPX.excO C hp.objs.size)).get? (hp.objs.size + 1) = some (PySem.HandSPX.excO C hp.objs.size) := by heap_get
  have I2 : Inv X pins σ (upd H1 (hp.objs.size + 1) (exo (hp.objs.size + 1) C none)) ⟨(hp.push (PySem.W.kdv_tup us)).push (PySem.HandSPX.excO C hp.objs.size), g, dr, tk, os⟩ :=
    I1.laid (t' := tk) (a := hp.objs.size + 1) (o := exo (hp.objs.size + 1) C none) (h' := (hp.push (PySem.W.kdv_tup us)).push (PySem.HandSPX.excO C hp.objs.size)) kk (Nat.le_succ _) (exo_ok hget)
  have r2 : Vals (V.ref (hp.objs.size + 1) :: vs) (Value.ref (hp.objs.size + 1) :: us) := .cons rfl r1
  have hl : (Value.ref (hp.objs.size + 1) :: us ++ []).length = ps.length := by
    have e := r2.length
    rw [F1.len _ _ _ _ hq] at e
    rw [List.append_nil]
    exact e.symm
  have hus : us.length ≤ sizeLine := by
    rw [← Paired.length r1, sizeLine_eq]
    omega
  have bnd := hb ⟨(hp.push (PySem.W.kdv_tup us)).push (PySem.HandSPX.excO C hp.objs.size), g, dr, tk, os⟩ (Value.ref (hp.objs.size + 1) :: us) I2.kIn hl
  rw [List.append_nil] at bnd
  refine wpAny_call (PySem.HandSPX.call_own F.excBase_ValueError (fun Y => PySem.HandSPX.refsVE_contains Y bm hbm) (I1.kIn _ _ hC) (PySem.W.looks_findIn I1.kIn iC) (fun self => PySem.W.bind_fn I1.kIn self tI) hus
    (codeAny_mono (F1.run _ X.stack _ _ ⟨Value.ref (hp.objs.size + 1) :: us, []⟩ (Value.ref (hp.objs.size + 1) :: us) _ _ (fun _ _ _ => False) (hr.make C us []) (I2.env0.make C us []) bnd r2 hq) fun r s' hq' => ?_))
  cases r with
  | error er => exact hx pins σ _ _ er s' I2 hq'
  | ok fl =>
    cases fl with
    | ret u =>
      obtain ⟨v, H2, os2, bare2, un2, hok2, rv, ev, d, fs, ea, ed, hd1, q2⟩ := hq'
      subst ev
      obtain ⟨h2, g2, d2, t2, os'⟩ := s'
      obtain ⟨t0, G, J, kG, ge, hoe, na⟩ := mk_end0 (d2 := d2) (t2 := t2) I1 (Nat.le_succ _) kk un2 hok2 os2 bare2 ea ed hd1
      exact ⟨rv, _, _, _, ⟨G, g2, d2, t2, os'⟩, _, .ref C, some d, rfl, J, kG, ge, hoe, ⟨rfl, rfl, fun vs z => by cases z; rfl⟩, rfl, rfl, na, rfl, bare2, raises_own T.exC T.tyC, q2⟩
    | next => exact False.elim hq'
    | brk => exact False.elim hq'
    | cont => exact False.elim hq'
structure ExcV (K : PySem.W.Frag) (mg : Str → Option Value) (x : Str) (fs : List Str) : Prop where
  oex : OexC K (ga K x)
  ini : PySem.W.findIn K (.ref (ga K x)) "__init__" = some (some (.ref (ma K (ga K x) "__init__")))
  tyI : PySem.W.typeIn K (.ref (ma K (ga K x) "__init__")) = some (.type "function")
  no : ∀ f, f ∈ fs → PySem.W.findIn K (.ref (ga K x)) f = some none
  gl : mg x = some (.ref (ga K x))
  xf : XfC K (ga K x)
theorem isOex_ok {K : PySem.W.Frag} {C : Addr} (h : isOex K C = true) : ∃ nm q N bs bm sn sub ab col dd k0 k1 k2 k3 k5, List.lookup C K = some (excClassObj nm q C N bs bm true sn sub ab col dd k0 k1 k2 k3 k5 "ValueError.__new__") ∧ HandSPX.refsVE bm = true := by
  unfold isOex at h
  split at h
  · rename_i dd cd sl e
    split at h
    · rename_i C' bm k0 k1 k2 k3 n k5 e1 e2
      simp only [Bool.and_eq_true, beq_iff_eq, Bool.not_eq_true'] at h
      obtain ⟨h1, h2, h3, h4, h5⟩ := h
      obtain ⟨nm, bs, mro, N, q, hd, sn, sub, ab, col, del⟩ := cd
      dsimp only at e1 h3 h4
      subst h1; subst h2; subst h3; subst h4; subst e1
      refine ⟨nm, q, N, bs, bm, sn, sub, ab, col, dd, k0, k1, k2, k3, k5, ?_, h5⟩
      rw [e]
      congr 2
      exact Array.toList_inj.mp e2
    · cases h
  · cases h
theorem excV_of {K : PySem.W.Frag} {mg : Str → Option Value} {h : Heap} (X : K.In h) (G : h.Ns mainGlobals mg) {x : Str} {fs : List Str} (c : fExcV x fs K = true) : ExcV K mg x fs := by
  obtain ⟨c1, c⟩ := ba c
  obtain ⟨c2, c⟩ := ba c
  obtain ⟨c3, c⟩ := ba c
  obtain ⟨c4, c⟩ := ba c
  obtain ⟨c5, c⟩ := ba c
  obtain ⟨c6, c⟩ := ba c
  obtain ⟨c7, c⟩ := ba c
  obtain ⟨c8, c⟩ := ba c
  obtain ⟨c9, c⟩ := ba c
  obtain ⟨c10, c⟩ := ba c
  obtain ⟨c11, c12⟩ := ba c
  exact ⟨⟨isOex_ok c1, of_decide_eq_true c2, of_decide_eq_true c3, of_decide_eq_true c4, c5⟩, of_decide_eq_true c6, of_decide_eq_true c7, fun f hf => of_decide_eq_true (List.all_eq_true.mp c8 f hf), glo_ok X G c9, ⟨of_decide_eq_true c10, of_decide_eq_true c11, of_decide_eq_true c3, c12⟩⟩
section
variable {P : Program} {w : World} {K : PySem.W.Frag} {mg : Str → Option Value} {base : Heap}
def sp1 (C : Addr) (f : Str) : Sp := fun vs H Q _ => ∃ a v, vs = [.ref a, v] ∧ H a = some (exo a C none) ∧ ∀ dx, H dx = none → dx ≠ a → Q .non (upd (upd H dx (exd dx [(f, v)])) a (exo a C (some dx)))
def sp2 (C : Addr) (f g : Str) : Sp := fun vs H Q _ => ∃ a v u, vs = [.ref a, v, u] ∧ H a = some (exo a C none) ∧ ∀ dx, H dx = none → dx ≠ a → Q .non (upd (upd (upd H dx (exd dx [(f, v)])) a (exo a C (some dx))) dx (exd dx [(g, u), (f, v)]))
theorem init1 {x qual : Str} {params : Arguments} {body : List Stmt} {scope : Scope} {fl : Addr} {fd : FuncData} {p f : Str} {p1 p2 p3 pos : Pos} {C : Addr} (F : FunD K x qual params body scope [] [] fl fd) (S : FnScope ["self", p] ["self", p] scope) (hb : body = [.Assign [.Attribute (.Name "self" p1) f p2] (.Name p p3) pos]) (T : OexC K C) (hno : PySem.W.findIn K (.ref C) f = some none)
    (hv0 : Vis scope "self") (hv1 : Vis scope p) (hd : (p == ("__debug__" : Str)) = false) (hcd : (p == ("__classdict__" : Str)) = false) : FnOk P w K mg base (L2N.CX P w) 1 fl fd ["self", p] (sp1 C f) := by
  refine F.ok (k := 0) S (fun vs H Q E ⟨a, v, e, _⟩ => by rw [e]; rfl) fun cdv A outer s H vs Q E hr ⟨a, v, e, ha, h⟩ => ⟨_, pss_W, ?_⟩
  subst e; subst hb
  refine b_cons (PS.w (ps_ost pe_W pe_W) (w_var 1 (v := v) (w_var 0 (v := .ref a) ?_ rfl rfl hv0 (by decide) (by decide)) rfl rfl hv1 hd hcd))
  refine ⟨a, C, rfl, T, hno, .inl ⟨ha, fun dx h1 h2 => ?_⟩⟩
  exact b_nil (h dx h1 h2)
theorem init2 {x qual : Str} {params : Arguments} {body : List Stmt} {scope : Scope} {fl : Addr} {fd : FuncData} {p q f g : Str} {p1 p2 p3 pos p4 p5 p6 pos2 : Pos} {C : Addr} (F : FunD K x qual params body scope [] [] fl fd) (S : FnScope ["self", p, q] ["self", p, q] scope) (hb : body = [.Assign [.Attribute (.Name "self" p1) f p2] (.Name p p3) pos, .Assign [.Attribute (.Name "self" p4) g p5] (.Name q p6) pos2]) (T : OexC K C) (hno : PySem.W.findIn K (.ref C) f = some none) (hno2 : PySem.W.findIn K (.ref C) g = some none)
    (hv0 : Vis scope "self") (hv1 : Vis scope p) (hv2 : Vis scope q) (hd : (p == ("__debug__" : Str)) = false) (hcd : (p == ("__classdict__" : Str)) = false) (hd2 : (q == ("__debug__" : Str)) = false) (hcd2 : (q == ("__classdict__" : Str)) = false) : FnOk P w K mg base (L2N.CX P w) 1 fl fd ["self", p, q] (sp2 C f g) := by
  refine F.ok (k := 0) S (fun vs H Q E ⟨a, v, u, e, _⟩ => by rw [e]; rfl) fun cdv A outer s H vs Q E hr ⟨a, v, u, e, ha, h⟩ => ⟨_, pss_W, ?_⟩
  subst e; subst hb
  refine b_cons (PS.w (ps_ost pe_W pe_W) (w_var 1 (v := v) (w_var 0 (v := .ref a) ?_ rfl rfl hv0 (by decide) (by decide)) rfl rfl hv1 hd hcd))
  refine ⟨a, C, rfl, T, hno, .inl ⟨ha, fun dx h1 h2 => ?_⟩⟩
  refine b_cons (PS.w (ps_ost pe_W pe_W) (w_var 2 (v := u) (w_var 0 (v := .ref a) ?_ rfl rfl hv0 (by decide) (by decide)) rfl rfl hv2 hd2 hcd2))
  refine ⟨a, C, rfl, T, hno2, .inr ⟨dx, [(f, v)], upd_same, by rw [upd_ne h2, upd_same], by simp, ?_⟩⟩
  exact b_nil (h dx h1 h2)
abbrev ErR1 (P : Program) (w : World) (K : PySem.W.Frag) (mg : Str → Option Value) (base : Heap) (x f : Str) : Prop := ExcV K mg x [f] ∧ ∃ fd ps, FnOk P w K mg base (L2N.CX P w) 1 (ma K (ga K x) "__init__") fd ps (sp1 (ga K x) f) ∧ Binds K fd ps []
abbrev ErR2 (P : Program) (w : World) (K : PySem.W.Frag) (mg : Str → Option Value) (base : Heap) (x f g : Str) : Prop := ExcV K mg x [f, g] ∧ ∃ fd ps, FnOk P w K mg base (L2N.CX P w) 1 (ma K (ga K x) "__init__") fd ps (sp2 (ga K x) f g) ∧ Binds K fd ps []
end
section
variable {α β γ δ S L : Type} {X : Cx} {I0 H0 : Hp} {W : WX} {Kx : KnowsX} {ctx cw : List (Option SF)} {mem : List MF} {e a b : Expr} {ss body suite : List Stmt} {b₀ : Stmt} {pos pos' np p1 p3 : Pos} {n x f g : Str} {rr : Ra γ} {r : Rp α} {r2 : Rp β} {G : Knows}
theorem passNo : Passes (L2N.CX X.prog X.w) X (fun _ _ _ => False) := fun _ _ _ _ _ _ _ ⟨_, _, _, _, _, _, _, _, _, _, _, _, h⟩ => h.elim
def ErrP (X : Cx) (W : WX) (Kx : KnowsX) (e : Exn) : Prop := ∀ I' H' σ' cls d, Kx I' H' σ' d → ExR X.K I' H' e cls d → W cls d σ' H'
theorem err_last {fs : List (Str × V)} {ps : List (Str × Pay)} {I H : Hp} {σ : L2.St} {a dx : Addr} (st : Stt I0 H0 ctx mem I H σ) (hx : ∀ I H σ d, Stt I0 H0 ctx mem I H σ → Fr H0 d → Kx I H σ d) (p : ErrP X W Kx ⟨x, ps⟩) (hp : ps ≠ []) (pr : Paired (fun (p : Str × V) (q : Str × Pay) => p.1 = q.1 ∧ PayR X.K I p.2 q.2) fs ps) (ha : H a = none) (h1 : H dx = none) (h2 : dx ≠ a) {H2 : Hp} (hH2 : ∀ b, b ≠ a → b ≠ dx → H2 b = H b) : W (.ref (ga X.K x)) (some dx) σ (upd (del H2 a) dx (.xd fs)) := by
  have e : upd (del H2 a) dx (.xd fs) = upd H dx (.xd fs) := funext fun b => by
    by_cases hb : b = dx
    · subst hb; rw [upd_same, upd_same]
    · rw [upd_ne hb, upd_ne hb]
      by_cases hb2 : b = a
      · subst hb2
        rw [ha]
        simp [del]
      · have : del H2 a b = H2 b := by simp [del, hb2]
        rw [this, hH2 b hb2 hb]
  rw [e]
  have f1 : Fm I H I (upd H dx (.xd fs)) := Fm.newM st.same h1
  refine p I _ σ _ (some dx) (hx _ _ _ _ (st.step f1) fun q z => by cases z; exact st.fm.h.free h1) ⟨rfl, hp, fs, upd_same, st.same.free h1, pr⟩
theorem raise1_core {m : Res α} {pay : α → Pay} {D : Ends} {I H : Hp} {σ : L2.St} (hc : X.calm = true) (tk : L2N.Takes X W) (er : ErR1 X.prog X.w X.K X.mg X.base x f) (hr : Room 2 X.A) (je : JE X I0 H0 W ctx mem e m (rp r)) (pc : ∀ I v y, r I v y → PayR X.K I v (pay y)) (hx : ∀ I H σ d, Stt I0 H0 ctx mem I H σ → Fr H0 d → Kx I H σ d) (st : Stt I0 H0 ctx mem I H σ)
    (p : match m with | .ok y => ErrP X W Kx ⟨x, [(f, pay y)]⟩ | .err ee => ErrP X W Kx ee | .stuck => False) (hg : Gl X x := by rfl) (hdb : (x == ("__debug__" : Str)) = false := by decide) (hs : starEach [e] X.env = (false, eval e X.env) :: starEach [] X.env := by rfl) (hpl : (backTo p3 (starEach [] X.env)).any (·.1) = false := by rfl) :
    wS X (.Raise (some (.Call (.Name x p1) [e] [] p3)) none pos) D σ H := by
  obtain ⟨ev, fd, ps, F1, hb⟩ := er
  refine s_raise hc tk (pmk_oexN ev.oex ev.ini ev.tyI F1 hr hb passNo hg ev.gl pa_W hdb hs hpl) ?_
  refine Tr.w_cons (je I H σ _ st ?_) hs
  cases m with
  | ok y =>
    intro I1 H1 v f1 r1
    refine w_nil ⟨by simp, fun q hq => ⟨q, v, rfl, upd_same, fun dx h1 h2 => ⟨rfl, dx, [(f, v)], upd_same, by rw [upd_ne h2, upd_same], by rwa [upd_ne h2] at h1, ?_⟩⟩⟩
    refine err_last (st.step f1) hx p (by simp) (.cons ⟨rfl, pc I1 v y r1⟩ .nil) hq (by rwa [upd_ne h2] at h1) h2 fun b h3 h4 => ?_
    rw [upd_ne h3, upd_ne h4, upd_ne h3]
  | err ee => exact fun I' H' c d f y => p I' H' σ c d (hx _ _ _ _ (st.step f) (y.1.back st.fm.h)) y.2
  | stuck => exact p
theorem raise2_core {m : Res α} {m2 : Res β} {pay : α → Pay} {pay2 : β → Pay} {D : Ends} {I H : Hp} {σ : L2.St} [Mo r] (hc : X.calm = true) (tk : L2N.Takes X W) (er : ErR2 X.prog X.w X.K X.mg X.base x f g) (hr : Room 2 X.A) (je : JE X I0 H0 W ctx mem e m (rp r)) (jb : JE X I0 H0 W ctx mem b m2 (rp r2)) (pc : ∀ I v y, r I v y → PayR X.K I v (pay y)) (pc2 : ∀ I v y, r2 I v y → PayR X.K I v (pay2 y)) (hx : ∀ I H σ d, Stt I0 H0 ctx mem I H σ → Fr H0 d → Kx I H σ d) (st : Stt I0 H0 ctx mem I H σ)
    (p : match m with | .ok y => (match m2 with | .ok z => ErrP X W Kx ⟨x, [(g, pay2 z), (f, pay y)]⟩ | .err ee => ErrP X W Kx ee | .stuck => False) | .err ee => ErrP X W Kx ee | .stuck => False) (hg : Gl X x := by rfl) (hdb : (x == ("__debug__" : Str)) = false := by decide) (hs : starEach [e, b] X.env = (false, eval e X.env) :: starEach [b] X.env := by rfl) (hs2 : starEach [b] X.env = (false, eval b X.env) :: starEach [] X.env := by rfl) (hpl : (backTo p3 (starEach [b] X.env)).any (·.1) = false := by rfl) :
    wS X (.Raise (some (.Call (.Name x p1) [e, b] [] p3)) none pos) D σ H := by
  obtain ⟨ev, fd, ps, F1, hb⟩ := er
  refine s_raise hc tk (pmk_oexN ev.oex ev.ini ev.tyI F1 hr hb passNo hg ev.gl pa_W hdb hs hpl) ?_
  refine Tr.w_cons (je I H σ _ st ?_) hs
  cases m with
  | ok y =>
    intro I1 H1 v f1 r1
    refine Tr.w_cons (jb I1 H1 σ _ (st.step f1) ?_) hs2
    cases m2 with
    | ok z =>
      intro I2 H2 u f2 r3
      refine w_nil ⟨by simp, fun q hq => ⟨q, v, u, rfl, upd_same, fun dx h1 h2 => ⟨rfl, dx, [(g, u), (f, v)], by rw [upd_ne (Ne.symm h2), upd_same], upd_same, by rwa [upd_ne h2] at h1, ?_⟩⟩⟩
      refine err_last ((st.step f1).step f2) hx p (by simp) (.cons ⟨rfl, pc2 I2 u z r3⟩ (.cons ⟨rfl, pc I2 v y (Mo.up f2.i r1)⟩ .nil)) hq (by rwa [upd_ne h2] at h1) h2 fun b h3 h4 => ?_
      rw [upd_ne h4, upd_ne h3, upd_ne h4, upd_ne h3]
    | err ee => exact fun I' H' c d f y => p I' H' σ c d (hx _ _ _ _ ((st.step f1).step f) (y.1.back (st.step f1).fm.h)) y.2
    | stuck => exact p
  | err ee => exact fun I' H' c d f y => p I' H' σ c d (hx _ _ _ _ (st.step f) (y.1.back st.fm.h)) y.2
  | stuck => exact p
theorem JR.raise1 {m : Res α} {pay : α → Pay} (hc : X.calm = true) (tk : L2N.Takes X W) (er : ErR1 X.prog X.w X.K X.mg X.base x f) (hr : Room 2 X.A) (je : JE X I0 H0 W ctx mem e m (rp r)) (pc : ∀ I v y, r I v y → PayR X.K I v (pay y)) (hx : ∀ I H σ d, Stt I0 H0 ctx mem I H σ → Fr H0 d → Kx I H σ d) (hg : Gl X x := by rfl) (hdb : (x == ("__debug__" : Str)) = false := by decide) (hs : starEach [e] X.env = (false, eval e X.env) :: starEach [] X.env := by rfl) (hpl : (backTo p3 (starEach [] X.env)).any (·.1) = false := by rfl) :
    JR X I0 H0 W Kx (Stt I0 H0 ctx mem) (.Raise (some (.Call (.Name x p1) [e] [] p3)) none pos :: ss) (m.bind fun y => (.err ⟨x, [(f, pay y)]⟩ : Res γ)) rr := fun I H σ D st p => by
  refine b_cons (raise1_core hc tk er hr je pc hx st ?_ hg hdb hs hpl)
  cases m with
  | ok y => exact p
  | err ee => exact p
  | stuck => exact p
theorem JR.raise2 {m : Res α} {m2 : Res β} {pay : α → Pay} {pay2 : β → Pay} [Mo r] (hc : X.calm = true) (tk : L2N.Takes X W) (er : ErR2 X.prog X.w X.K X.mg X.base x f g) (hr : Room 2 X.A) (je : JE X I0 H0 W ctx mem e m (rp r)) (jb : JE X I0 H0 W ctx mem b m2 (rp r2)) (pc : ∀ I v y, r I v y → PayR X.K I v (pay y)) (pc2 : ∀ I v y, r2 I v y → PayR X.K I v (pay2 y)) (hx : ∀ I H σ d, Stt I0 H0 ctx mem I H σ → Fr H0 d → Kx I H σ d) (hg : Gl X x := by rfl) (hdb : (x == ("__debug__" : Str)) = false := by decide) (hs : starEach [e, b] X.env = (false, eval e X.env) :: starEach [b] X.env := by rfl) (hs2 : starEach [b] X.env = (false, eval b X.env) :: starEach [] X.env := by rfl) (hpl : (backTo p3 (starEach [b] X.env)).any (·.1) = false := by rfl) :
    JR X I0 H0 W Kx (Stt I0 H0 ctx mem) (.Raise (some (.Call (.Name x p1) [e, b] [] p3)) none pos :: ss) (m.bind fun y => m2.bind fun z => (.err ⟨x, [(g, pay2 z), (f, pay y)]⟩ : Res γ)) rr := fun I H σ D st p => by
  refine b_cons (raise2_core hc tk er hr je jb pc pc2 hx st ?_ hg hdb hs hs2 hpl)
  cases m with
  | ok y => cases m2 with
    | ok z => exact p
    | err ee => exact p
    | stuck => exact p
  | err ee => exact p
  | stuck => exact p
theorem pay_int {K : PySem.W.Frag} : ∀ I v y, rInt I v y → PayR K I v (.int y) := fun _ _ _ h => h
def tryG (m : Res (Fl S L γ)) (Ls : List (Str × Bool)) (h : Exn → Res (Fl S L γ)) : Res (Fl S L γ) := match m with
  | .ok s => .ok s
  | .err e => (match Ls.lookup e.cls with
    | some true => (match h e with
      | .ok y => .ok y
      | _ => .stuck)
    | some false => .err e
    | none => .stuck)
  | .stuck => .stuck
def MF.same (I1 : Hp) : MF := ⟨fun I _ fp => fp = [] ∧ Same I1 I, fun s ⟨e, h⟩ => ⟨e, h.trans s⟩, fun _ h => h⟩
theorem Regs.snoc {I H : Hp} {c : MF} : ∀ {mem : List MF} {fps : List (List Addr)} {fp : List Addr}, Regs I H mem fps → c.Q I H fp → Regs I H (mem ++ [c]) (fps ++ [fp])
  | [], [], _, _, h => ⟨h, True.intro⟩
  | _ :: _, _ :: _, _, ⟨a, b⟩, h => ⟨a, Regs.snoc b h⟩
  | [], _ :: _, _, h, _ => h.elim
  | _ :: _, [], _, h, _ => h.elim
theorem Regs.unsnoc {I H : Hp} {c : MF} : ∀ {mem : List MF} {fps : List (List Addr)}, Regs I H (mem ++ [c]) fps → ∃ fps0 fp, fps = fps0 ++ [fp] ∧ Regs I H mem fps0 ∧ c.Q I H fp
  | [], [fp], ⟨h, _⟩ => ⟨[], fp, rfl, True.intro, h⟩
  | [], [], h => h.elim
  | [], _ :: _ :: _, ⟨_, h⟩ => h.elim
  | _ :: _, q :: _, ⟨a, b⟩ => by
    obtain ⟨fps0, fp, e, r, h⟩ := Regs.unsnoc b
    exact ⟨q :: fps0, fp, by rw [e]; rfl, ⟨a, r⟩, h⟩
  | _ :: _, [], h => h.elim
theorem Stt.ghost {I H : Hp} {σ : L2.St} (s : Stt I0 H0 ctx mem I H σ) : Stt I0 H0 ctx (mem ++ [MF.same I]) I H σ := by
  obtain ⟨fps, rg, nd, k⟩ := s.me
  have e : (fps ++ [[]]).flatten = fps.flatten := by simp
  exact ⟨s.fm, s.len, s.sl, fps ++ [[]], rg.snoc ⟨rfl, Same.refl _⟩, by rw [e]; exact nd, fun a ha => k a (by rwa [e] at ha)⟩
theorem Stt.ungh {I1 I H : Hp} {σ : L2.St} (s : Stt I0 H0 ctx (mem ++ [MF.same I1]) I H σ) : Same I1 I ∧ Stt I0 H0 ctx mem I H σ := by
  obtain ⟨fps, rg, nd, k⟩ := s.me
  obtain ⟨fps0, fp, e, r, e2, h⟩ := rg.unsnoc
  subst e2; subst e
  have e : (fps0 ++ [[]]).flatten = fps0.flatten := by simp
  rw [e] at nd k
  exact ⟨h, s.fm, s.len, s.sl, fps0, r, nd, k⟩
theorem J1G.tryAs (i : Nat) {cv : Value} {Ls : List (Str × Bool)} {mb : Res (Fl S L γ)} {G' : S → Knows} {GL : L → Knows} {mh : Exn → Res (Fl S L γ)} {me' : Hp → List MF} (tk : L2N.Takes X W)
    (jb : ∀ (W' : WX) (pn : List (Addr × Obj)) (xe : Value → Shared → Prop) (I1 : Hp), L2N.Takes (X.tr pn xe) W' → PassesOwn (model X.prog X.w) X.A X.env xe → JG (X.tr pn xe) I0 H0 W' (fun I H σ d => Stt I0 H0 cw (me' I1) I H σ ∧ Fr H0 d) (Stt I0 H0 ctx (me' I1)) body mb G' GL rr)
    (js : ∀ (a : Addr) (oe : Obj) (ee : Exn) (d : Option Addr) (pn : List (Addr × Obj)), L2N.Zn (.ref (He.ga X.K ee.cls)) d oe → (∃ vs, oe.data = .fields vs) → (ee.cls, true) ∈ Ls → (d = none → ee.pay = []) → (∀ q, d = some q → ee.pay ≠ []) → JG (X.suite a ((a, oe) :: pn)) I0 H0 (fun _ _ _ _ => False) (fun _ _ _ _ => True) (Stt I0 H0 (cw.set i (some ⟨rExc a, ()⟩)) (exm X.K d ee ++ mem)) (b₀ :: suite) (mh ee) (fun s I H σ => G' s I H (σ.set i none)) (fun s I H σ => GL s I H (σ.set i none)) rr)
    (hL : ∀ y b, (y, b) ∈ Ls → PySem.W.exmOne X.K (.ref (He.ga X.K y)) cv = some b) (hc : Names X x cv) (hx : ∀ I H σ d, Stt I0 H0 cw mem I H σ → Fr H0 d → Kx I H σ d) (hN : X.N.Nodup) (hme : ∀ I1, me' I1 = mem ++ [MF.same I1] := by intro _; rfl)
    (hs : X.stack = X.env :: X.outer := by rfl) (hf : X.env.frame = some X.env.locals := by rfl) (hi : X.N[i]? = some n := by rfl) (hln : X.env.kindOf n = some .local := by rfl) (hmx : NoXd mem := by exact True.intro) :
    J1G X I0 H0 W Kx (Stt I0 H0 ctx mem) (.Try body [.ExceptHandler (some (.Name x np)) (some n) (b₀ :: suite) pos'] [] [] pos) (tryG mb Ls mh) G' GL rr := fun I H σ D g p => by
  refine PS.w (L2N.ps_try_as (i := i) (tb := fun W' D σ H => ∀ pn xe, L2N.Takes (X.tr pn xe) W' → PassesOwn (model X.prog X.w) X.A X.env xe → wB (X.tr pn xe) body D σ H) (ts := fun a cls d D σ H => ∀ oe pn, L2N.Zn cls d oe → (∃ vs, oe.data = .fields vs) → wB (X.suite a ((a, oe) :: pn)) (b₀ :: suite) D σ H) hs hf hN hi hln hc tk
    (fun W' pn xe t1 t2 => ⟨fun pins s σ H D Iv h => h pn xe t1 t2 pins s Iv⟩) (fun a oe cls d pn hz hf => ⟨fun pins s σ H D Iv h => h oe pn hz hf pins s Iv⟩)) ?_
  intro pn xe t1 t2
  refine jb _ pn xe I t1 t2 I H σ _ (by rw [hme]; exact g.ghost) ?_
  cases mb with
  | ok r =>
    cases r with
    | nx s => exact p
    | bk s => exact p
    | ct s => exact p
    | rt y => exact p
  | stuck => exact p.elim
  | err ee =>
    intro I' H' σ' cls d hk hxr
    obtain ⟨g0, fr⟩ := hk
    rw [hme] at g0
    obtain ⟨sm, g1⟩ := g0.ungh
    obtain ⟨ec, hxr2⟩ := id hxr
    have p1 : PostG X I0 H0 W Kx I (match Ls.lookup ee.cls with
      | some true => (match mh ee with
        | .ok y => .ok y
        | _ => .stuck)
      | some false => .err ee
      | none => .stuck) G' GL rr D := p
    cases hl : Ls.lookup ee.cls with
    | none => rw [hl] at p1; exact p1.elim
    | some bb =>
      rw [hl] at p1
      refine ⟨bb, by rw [ec]; exact hL _ _ (lookup_mem hl), fun hb a ha oe pn' hz hf' => ?_, fun hb => ?_⟩
      · subst hb
        rw [ec] at hz
        refine js a oe ee d pn' hz hf' (lookup_mem hl) (fun z => by subst z; exact hxr2) (fun q z => by subst z; exact hxr2.1) I' H' _ _ ((g1.set i (r := rExc a) (x := ()) rfl).exm fr hxr hmx) ?_
        have p2 : PostG X I0 H0 W Kx I (match mh ee with
          | .ok y => .ok y
          | _ => .stuck) G' GL rr D := p1
        revert p2
        generalize mh ee = z
        intro p2
        cases z with
        | ok y =>
          cases y with
          | nx s => exact fun I2 H2 σ2 s2 q => p2 I2 H2 _ (sm.trans s2) q
          | bk s => exact fun I2 H2 σ2 s2 q => p2 I2 H2 _ (sm.trans s2) q
          | ct s => exact fun I2 H2 σ2 s2 q => p2 I2 H2 _ (sm.trans s2) q
          | rt y => exact p2
        | err _ => exact p2.elim
        | stuck => exact p2.elim
      · subst hb
        exact p1 I' H' σ' cls d (hx _ _ _ _ g1 fr) hxr
def pay1 {δ : Type} (f : Str) (dp : Pay → Option α) (h : α → Res δ) (ps : List (Str × Pay)) : Res δ := match ps with
  | [(g, p)] => if g = f then (match dp p with
    | some y => h y
    | none => .stuck) else .stuck
  | _ => .stuck
def dInt : Pay → Option Int
  | .int n => some n
  | _ => none
def dStr : Pay → Option Str
  | .str n => some n
  | _ => none
def dFrac : Pay → Option Rat
  | .frac n => some n
  | _ => none
def dNum : Pay → Option Num
  | .int n => some (.i n)
  | .frac q => some (.q q)
  | _ => none
class PayD (K : PySem.W.Frag) (dp : Pay → Option α) (r : Rp α) : Prop where
  ok : ∀ I v p y, PayR K I v p → dp p = some y → r I v y
instance {K : PySem.W.Frag} : PayD K dInt rInt := ⟨fun I v p y h e => by cases p <;> first | (cases e; exact h) | cases e⟩
instance {K : PySem.W.Frag} : PayD K dStr rStr := ⟨fun I v p y h e => by cases p <;> first | (cases e; exact h) | cases e⟩
instance {K : PySem.W.Frag} : PayD K dFrac (rFrac K) := ⟨fun I v p y h e => by cases p <;> first | (cases e; exact h) | cases e⟩
instance {K : PySem.W.Frag} : PayD K dNum (rNum K) := ⟨fun I v p y h e => by cases p <;> first | (cases e; exact h) | cases e⟩
theorem J1G.tryAs1 (i : Nat) (f : Str) (dp : Pay → Option α) {c0 : Str} {cv : Value} {Ls : List (Str × Bool)} {mb : Res (Fl S L γ)} {G' : S → Knows} {GL : L → Knows} {mh : α → Res (Fl S L γ)} {me' : Hp → List MF} (tk : L2N.Takes X W)
    (jb : ∀ (W' : WX) (pn : List (Addr × Obj)) (xe : Value → Shared → Prop) (I1 : Hp), L2N.Takes (X.tr pn xe) W' → PassesOwn (model X.prog X.w) X.A X.env xe → JG (X.tr pn xe) I0 H0 W' (fun I H σ d => Stt I0 H0 cw (me' I1) I H σ ∧ Fr H0 d) (Stt I0 H0 ctx (me' I1)) body mb G' GL rr)
    (js : ∀ (a : Addr) (oe : Obj) (dd : Addr) (pn : List (Addr × Obj)) (p : Pay) (y : α), L2N.Zn (.ref (He.ga X.K c0)) (some dd) oe → (∃ vs, oe.data = .fields vs) → dp p = some y → JG (X.suite a ((a, oe) :: pn)) I0 H0 (fun _ _ _ _ => False) (fun _ _ _ _ => True) (Stt I0 H0 (cw.set i (some ⟨rExc a, ()⟩)) (MF.xd X.K dd [(f, p)] :: mem)) (b₀ :: suite) (mh y) (fun s I H σ => G' s I H (σ.set i none)) (fun s I H σ => GL s I H (σ.set i none)) rr)
    (hcl : ∀ c, (c, true) ∈ Ls → c = c0) (hL : ∀ y b, (y, b) ∈ Ls → PySem.W.exmOne X.K (.ref (He.ga X.K y)) cv = some b) (hc : Names X x cv) (hx : ∀ I H σ d, Stt I0 H0 cw mem I H σ → Fr H0 d → Kx I H σ d) (hN : X.N.Nodup) (hme : ∀ I1, me' I1 = mem ++ [MF.same I1] := by intro _; rfl)
    (hs : X.stack = X.env :: X.outer := by rfl) (hf : X.env.frame = some X.env.locals := by rfl) (hi : X.N[i]? = some n := by rfl) (hln : X.env.kindOf n = some .local := by rfl) (hmx : NoXd mem := by exact True.intro) :
    J1G X I0 H0 W Kx (Stt I0 H0 ctx mem) (.Try body [.ExceptHandler (some (.Name x np)) (some n) (b₀ :: suite) pos'] [] [] pos) (tryG mb Ls (fun ee => pay1 f dp mh ee.pay)) G' GL rr := by
  refine J1G.tryAs i tk jb (fun a oe ee d pn hz hf' hm h0 h1 => ?_) hL hc hx hN hme hs hf hi hln hmx
  rw [hcl _ hm] at hz
  obtain ⟨ec, ep⟩ := ee
  dsimp only at h0 h1 ⊢
  cases ep with
  | nil => exact JG.dead
  | cons q ep =>
    cases ep with
    | cons _ _ => exact JG.dead
    | nil =>
      obtain ⟨g, p⟩ := q
      unfold pay1
      dsimp only
      by_cases hg : g = f
      · rw [if_pos hg]
        subst hg
        cases hd : dp p with
        | none => exact JG.dead
        | some y =>
          cases d with
          | none => cases h0 rfl
          | some dd => exact js a oe dd pn p y hz hf' hd
      · rw [if_neg hg]; exact JG.dead
theorem J1G.tryAs0 (i : Nat) {c0 : Str} {cv : Value} {Ls : List (Str × Bool)} {mb : Res (Fl S L γ)} {G' : S → Knows} {GL : L → Knows} {mh : Res (Fl S L γ)} {me' : Hp → List MF} (tk : L2N.Takes X W)
    (jb : ∀ (W' : WX) (pn : List (Addr × Obj)) (xe : Value → Shared → Prop) (I1 : Hp), L2N.Takes (X.tr pn xe) W' → PassesOwn (model X.prog X.w) X.A X.env xe → JG (X.tr pn xe) I0 H0 W' (fun I H σ d => Stt I0 H0 cw (me' I1) I H σ ∧ Fr H0 d) (Stt I0 H0 ctx (me' I1)) body mb G' GL rr)
    (js : ∀ (a : Addr) (oe : Obj) (pn : List (Addr × Obj)), L2N.Zn (.ref (He.ga X.K c0)) none oe → (∃ vs, oe.data = .fields vs) → JG (X.suite a ((a, oe) :: pn)) I0 H0 (fun _ _ _ _ => False) (fun _ _ _ _ => True) (Stt I0 H0 (cw.set i (some ⟨rExc a, ()⟩)) mem) (b₀ :: suite) mh (fun s I H σ => G' s I H (σ.set i none)) (fun s I H σ => GL s I H (σ.set i none)) rr)
    (hcl : ∀ c, (c, true) ∈ Ls → c = c0) (hL : ∀ y b, (y, b) ∈ Ls → PySem.W.exmOne X.K (.ref (He.ga X.K y)) cv = some b) (hc : Names X x cv) (hx : ∀ I H σ d, Stt I0 H0 cw mem I H σ → Fr H0 d → Kx I H σ d) (hN : X.N.Nodup) (hme : ∀ I1, me' I1 = mem ++ [MF.same I1] := by intro _; rfl)
    (hs : X.stack = X.env :: X.outer := by rfl) (hf : X.env.frame = some X.env.locals := by rfl) (hi : X.N[i]? = some n := by rfl) (hln : X.env.kindOf n = some .local := by rfl) (hmx : NoXd mem := by exact True.intro) :
    J1G X I0 H0 W Kx (Stt I0 H0 ctx mem) (.Try body [.ExceptHandler (some (.Name x np)) (some n) (b₀ :: suite) pos'] [] [] pos) (tryG mb Ls (fun ee => if ee.pay.isEmpty = true then mh else .stuck)) G' GL rr := by
  refine J1G.tryAs i tk jb (fun a oe ee d pn hz hf' hm h0 h1 => ?_) hL hc hx hN hme hs hf hi hln hmx
  rw [hcl _ hm] at hz
  obtain ⟨ec, ep⟩ := ee
  dsimp only at h0 h1 ⊢
  cases ep with
  | cons _ _ => exact JG.dead
  | nil =>
    cases d with
    | some dd => exact absurd rfl (h1 dd rfl)
    | none => exact js a oe pn hz hf'
theorem JE.xfld (i j : Nat) {ad dd : Addr} {oe : Obj} {pn : List (Addr × Obj)} {c0 : Str} {ps : List (Str × Pay)} {p : Pay} {y : α} {dp : Pay → Option α} [pd : PayD X.K dp r] (hz : L2N.Zn (.ref (He.ga X.K c0)) (some dd) oe) (hf : ∃ vs, oe.data = .fields vs) (ev : XfC X.K (He.ga X.K c0)) (hno : PySem.W.findIn X.K (.ref (He.ga X.K c0)) f = some none) (hd : dp p = some y) (hl : ps.lookup f = some p) (je : JE (X.suite ad ((ad, oe) :: pn)) I0 H0 W ctx mem a (.ok ()) (rp (rExc ad))) (hj : mem[j]? = some (MF.xd X.K dd ps) := by rfl) (hab : attributeBase a f X.env (eval a X.env) = eval a X.env := by rfl) :
    JE (X.suite ad ((ad, oe) :: pn)) I0 H0 W ctx mem (.Attribute a f pos) (.ok y) (rp r) := fun I H σ Q st q => by
  refine PE.w (pe_xf ev hno hz.zc hf pe_W hab) (je I H σ _ st ?_)
  intro I1 H1 v f1 r1
  have ev1 : v = .ref ad := r1
  obtain ⟨_, _, o, h1, fs, e1, pr⟩ := (st.step f1).me1 (P := fun I o => ∃ fs, o = .xd fs ∧ Paired (fun (p : Str × V) (q : Str × Pay) => p.1 = q.1 ∧ PayR X.K I p.2 q.2) fs ps) hj fun q => q
  subst e1
  have look : ∀ {fs : List (Str × V)} {ps : List (Str × Pay)}, Paired (fun (p : Str × V) (q : Str × Pay) => p.1 = q.1 ∧ PayR X.K I1 p.2 q.2) fs ps → ps.lookup f = some p → ∃ v, fs.lookup f = some v ∧ PayR X.K I1 v p := by
    intro fs ps h
    induction h with
    | nil => intro h; cases h
    | @cons u w us ws hh ht ih =>
      intro hl
      obtain ⟨u1, u2⟩ := u
      obtain ⟨w1, w2⟩ := w
      obtain ⟨e, hp⟩ := hh
      dsimp only at e hp
      subst e
      have hl' : (match f == u1 with | true => some w2 | false => ws.lookup f) = some p := hl
      show ∃ v, (match f == u1 with | true => some u2 | false => us.lookup f) = some v ∧ _
      cases hb : f == u1 with
      | true => rw [hb] at hl'; cases hl'; exact ⟨u2, rfl, hp⟩
      | false => rw [hb] at hl'; exact ih hl'
  obtain ⟨z, hz1, hz2⟩ := look pr hl
  exact ⟨ev1, rfl, dd, fs, z, rfl, h1, hz1, q I1 H1 z f1 (pd.ok I1 z p y hz2 hd)⟩
end
end L2.Tr

namespace L2.Tr
open PySem PySem.Spec PyProof.Rows He
section
variable {α β γ δ S L : Type} {X : Cx} {I0 H0 I H : Hp} {W : WX} {Kx : KnowsX} {G : Knows} {ctx : List (Option SF)} {mem : List MF} {e a b c o : Expr} {es : List Expr} {st : Stmt} {ss s1 : List Stmt} {pos pos' p2 : Pos} {n : Str} {σ : St} {Q : VK} {r : Rp α} {ra : Ra α} {rb : Ra β} {rc : Ra γ} {rr : Ra γ} {ma : Res α} {mb : Res β} {mc : Res Bool} {md : Res δ} {R : Hp → Hp → List V → δ → Prop} {K : PySem.W.Frag}
end
end L2.Tr

namespace GQ
open PySem PySem.SeqAt
open AutoSeq1 (wpAny_loadPart')
open MeetsSeq MeetsSeq2 MeetsSeq3 SeqRoads2
section
variable {prog : Program} {w : World} {A : Around} {R : Result → Shared → Prop} {E : Value → Shared → Prop} {s : Shared}
end
end GQ
namespace L2.Tr
open PySem PySem.Spec PyProof.Rows He
instance : DecidableEq Num := fun x y => match x, y with
  | .i a, .i b => if h : a = b then .isTrue (by rw [h]) else .isFalse fun e => h (by cases e; rfl)
  | .q a, .q b => if h : a = b then .isTrue (by rw [h]) else .isFalse fun e => h (by cases e; rfl)
  | .i _, .q _ => .isFalse fun e => nomatch e
  | .q _, .i _ => .isFalse fun e => nomatch e
section
variable {X : Cx} {W : WX} {n : Nat} {D : Eqv}
end
end L2.Tr

namespace L2.Tr
open PySem PySem.Spec PyProof.Rows He
section
variable {α β γ δ S L : Type} {X : Cx} {I0 H0 I H : Hp} {W : WX} {ctx : List (Option SF)} {mem : List MF} {e a b c o : Expr} {es : List Expr} {pos pos' p2 : Pos} {n : Str} {σ : St} {Q : VK} {K : PySem.W.Frag}
theorem qEq_refl (q : Rat) : qEq q (.q q) = .ok true := by
  unfold qEq
  rw [show (Num.q q).val = q from rfl, decide_eq_true rfl]
def rIsV (K : PySem.W.Frag) (D ad dd : Addr) : List V → Hp → VK → Prop := fun xs H Q => ∃ (c : V) (u : Value) (t : Bool), xs = [.ref ad, c] ∧ (∀ v, RelV c v → v = u) ∧ PySem.W.kitOne K (.ref D) u = some t ∧ (∃ fs, H dd = some (.xd fs)) ∧ Q (.bl t) H
theorem call_isV {ad D dd : Addr} {oe : Obj} {pn : List (Addr × Obj)} (C : ExcC X.K D) (hz : L2N.Zn (.ref D) (some dd) oe) (hf : ∃ vs, oe.data = .fields vs) : CallR (X.suite ad ((ad, oe) :: pn)) (.builtin "isinstance") (rIsV X.K D ad dd) := by
  rintro pins s σ H xs us Q I r ⟨c, u, t, rfl, hu, hk, ⟨fs, hd⟩, q⟩
  cases r with | cons rx rr =>
  cases rr with | cons rt rr =>
  cases rr
  cases rx
  obtain rfl := hu _ rt
  obtain ⟨at_, _⟩ := I.pin (ad, oe) (List.mem_append_left _ List.mem_cons_self)
  obtain ⟨vs, hv⟩ := hf
  obtain ⟨mA, hns, _⟩ := (show ObjOk X.prog X.w H s.heap dd (.xd fs) from I.hok dd _ hd)
  obtain ⟨od, ho, _⟩ := lookIn_ns hns
  have J : PySem.W.InstAt s.heap ad oe D (some od) := ⟨at_, hz.1, by unfold PySem.W.notCls; rw [hv] <;> rfl, by rw [hz.2.1]; exact ho⟩
  have hcl : (PySem.W.clsIn X.K D).isSome = true := by obtain ⟨cd, h1, _⟩ := PySem.W.any_some C.hd; rw [h1]; rfl
  exact PySem.W.kia_one (PySem.W.kitx_exc hcl C.hg C.hk C.hs C.ha C.hn C.ht C.hm) I.kIn J hk (fun z => nomatch z) fun tk => ⟨.bl t, H, I.kept (t' := tk) fun _ _ z => z, rfl, q⟩
theorem JE.isV (j : Nat) {ad dd : Addr} {oe : Obj} {pn : List (Addr × Obj)} {D : Addr} {u : Value} {cv : V} {bb : Bool} {ps : List (Str × Pay)} (hz : L2N.Zn (.ref D) (some dd) oe) (hf : ∃ vs, oe.data = .fields vs) (C : ExcC X.K D) (hk : PySem.W.kitOne X.K (.ref D) u = some bb) (je : JE (X.suite ad ((ad, oe) :: pn)) I0 H0 W ctx mem a (.ok ()) (rp (rExc ad))) (jc : ∀ σ H Q, Q cv H → wE (X.suite ad ((ad, oe) :: pn)) b σ H Q) (hc : ClsV cv u) (hm : X.mg "isinstance" = none) (hj : mem[j]? = some (MF.xd X.K dd ps) := by rfl) (hg : Gl (X.suite ad ((ad, oe) :: pn)) "isinstance" := by rfl)
    (hs : starEach [a, b] X.env = (false, eval a X.env) :: starEach [b] X.env := by rfl) (hs2 : starEach [b] X.env = (false, eval b X.env) :: starEach [] X.env := by rfl) (hpl : (backTo pos (starEach [b] X.env)).any (·.1) = false := by rfl) :
    JE (X.suite ad ((ad, oe) :: pn)) I0 H0 W ctx mem (.Call (.Name "isinstance" pos') [a, b] [] pos) (.ok bb) (rp rBl) := fun I H σ Q st p => by
  refine w_callB (id := "isinstance") (Tr.w_cons (je I H σ _ st ?_) hs) hm (by decide +kernel) hg (by decide) (by decide) hs hpl
  intro I1 H1 v f1 r1
  cases (show v = V.ref ad from r1)
  obtain ⟨_, _, o, h1, fs, e1, _⟩ := (st.step f1).me1 (P := fun I o => ∃ fs, o = .xd fs ∧ Paired (fun (p : Str × V) (q : Str × Pay) => p.1 = q.1 ∧ PayR X.K I p.2 q.2) fs ps) hj fun q => q
  subst e1
  refine Tr.w_cons (jc σ H1 _ (w_nil ?_)) hs2
  exact CallR.w (call_isV C hz hf) ⟨cv, u, bb, rfl, fun w hw => hc.eq hw, hk, ⟨fs, h1⟩, p I1 H1 _ f1 rfl⟩
section
variable {ε : Type} {kws : List Keyword} {ks : List Str} {R : Hp → Hp → List V → δ → Prop} {R' : Hp → Hp → List V → ε → Prop} {rc : Ra γ} {me : Res ε}
end
end
end L2.Tr

namespace L2.Tr
open PySem PySem.Spec PyProof.Rows
section
variable {α β γ δ S T L : Type}
def PostX (X : Cx) (I0 H0 : Hp) (W : WX) (Kx : KnowsX) (ctx : List (Option SF)) (C : T → List MF) (σ : St) (I : Hp) (m : Res (α × T)) (r : Rp α) (Q : VK) : Prop := match m with
  | .ok x => ∀ I' H' v, Same I I' → Stt I0 H0 ctx (C x.2) I' H' σ → r I' v x.1 → Q v H'
  | .err e => ∀ I' H' cls d, Kx I' H' σ d → ExR X.K I' H' e cls d → W cls d σ H'
  | .stuck => False
def JX (X : Cx) (I0 H0 : Hp) (W : WX) (Kx : KnowsX) (ctx : List (Option SF)) (C : T → List MF) (t0 : T) (e : Expr) (m : Res (α × T)) (r : Rp α) : Prop :=
  ∀ (I H : Hp) (σ : St) (Q : VK), Stt I0 H0 ctx (C t0) I H σ → PostX X I0 H0 W Kx ctx C σ I m r Q → wE X e σ H Q
def Res.bindX (m : Res (α × T)) (f : α → T → Res β) : Res β := m.bind fun x => f x.1 x.2
@[simp] theorem Res.ok_bindX (a : α) (t : T) (f : α → T → Res β) : (Res.ok (a, t)).bindX f = f a t := rfl
@[simp] theorem Res.err_bindX (e : Exn) (f : α → T → Res β) : (Res.err e).bindX f = .err e := rfl
@[simp] theorem Res.stuck_bindX (f : α → T → Res β) : (Res.stuck).bindX f = .stuck := rfl
variable {X : Cx} {I0 H0 I H I1 : Hp} {W : WX} {Kx : KnowsX} {G : Knows} {ctx : List (Option SF)} {C : T → List MF} {t0 t : T} {e a b c o iter elt : Expr} {es bs : List Expr} {st : Stmt} {ss s1 s2 : List Stmt} {pos pos' p2 : Pos} {n : Str} {ra : Rp α} {rb : Rp β} {rc : Rp γ} {r : Rp α} {σ : St} {Q : VK} {R : Hp → Hp → List V → δ → Prop}
theorem JX.map {m : Res (α × T)} {r' : Rp β} {g : α → β} (j : JX X I0 H0 W Kx ctx C t0 e m r) (h : ∀ I v x, r I v x → r' I v (g x)) : JX X I0 H0 W Kx ctx C t0 e (m.bindX fun x t => .ok (g x, t)) r' := fun I H σ Q st p => j I H σ Q st (by
  cases m with
  | ok x => exact fun I' H' v s g' q => p I' H' v s g' (h _ _ _ q)
  | err e => exact p
  | stuck => exact p)
class MoN (R : Hp → Hp → List V → δ → Prop) : Prop where
  up : ∀ {I H I' H' : Hp} {vs : List V} {x : δ}, Same I I' → R I H vs x → R I' H' vs x
variable {md : Res (δ × T)} {g : δ → Res γ}
structure RgF (I H1 I' H' : Hp) (c : MF) (fp : List Addr) : Prop where
  fm : Fm I H1 I' H'
  nd : fp.Nodup
  own : ∀ a, a ∈ fp → H1 a = none ∧ I' a = none ∧ H' a ≠ none
  q : c.Q I' H' fp
structure RgS (I H : Hp) (c : MF) (fp : List Addr) : Prop where
  s : Same I H
  q : c.Q I H fp
  nd : fp.Nodup
  own : ∀ a, a ∈ fp → I a = none ∧ H a ≠ none
end
end L2.Tr

namespace L2.Tr
open PySem PySem.Spec PyProof.Rows
section
variable {α β γ δ S T L : Type} {X : Cx} {I0 H0 I H I1 : Hp} {W : WX} {Kx : KnowsX} {G : Knows} {ctx : List (Option SF)} {mem : List MF} {C : T → List MF} {t0 t : T} {e a b c o iter elt ix : Expr} {es bs : List Expr} {st : Stmt} {ss s1 s2 body : List Stmt} {pos pos' p2 : Pos} {n : Str} {ra : Rp α} {rb : Rp β} {rc : Rp γ} {r : Rp α} {σ : St} {Q : VK} {R : Hp → Hp → List V → δ → Prop} {rr : Ra γ}
end
end L2.Tr

namespace L2.Tr
open PySem PySem.Spec PyProof.Rows
section
variable {α β γ δ S T L : Type} {X : Cx} {I0 H0 I H I1 : Hp} {W : WX} {Kx : KnowsX} {G : Knows} {ctx : List (Option SF)} {mem : List MF} {C : T → List MF} {t0 t : T} {e a b c o iter elt ix : Expr} {es bs : List Expr} {st : Stmt} {ss s1 s2 body : List Stmt} {pos pos' p2 : Pos} {n : Str} {ra : Rp α} {rb : Rp β} {rc : Rp γ} {r : Rp α} {σ : St} {Q : VK} {R : Hp → Hp → List V → δ → Prop} {rr : Ra γ}
def atS (z : Str) (i : Int) : Res Str := Res.guard (z.length ≤ sizeLine) (match atI z.cps.toList i with
  | some c => .ok ⟨#[c]⟩
  | none => .stuck)
theorem atS_post {z : Str} {i : Int} {K : PySem.W.Frag} {E : XK} (h : PostE K (atS z i) (rp rStr) I H E Q) : ∃ c, z.length ≤ sizeLine ∧ atI z.cps.toList i = some c ∧ PostE K (.ok ⟨#[c]⟩) (rp rStr) I H E Q := by
  unfold atS at h
  obtain ⟨h1, h2⟩ := post_guard h
  cases e : atI z.cps.toList i with
  | none => rw [e] at h2; exact h2.elim
  | some c => rw [e] at h2; exact ⟨c, h1, rfl, h2⟩
theorem JE.ixStr {m : Res Str} {mi : Res Int} (ja : JE X I0 H0 W ctx mem a m (rp rStr)) (jb : JE X I0 H0 W ctx mem b mi (rp rInt)) (hs : PlainIx b := by exact fun _ _ => rfl) :
    JE X I0 H0 W ctx mem (.Subscript a b pos) (m.bind fun xs => mi.bind fun i => atS xs i) (rp rStr) := fun I H σ Q st p => by
  refine PE.w (pe_ix ix_str pe_W pe_W hs) (ja I H σ _ st ?_)
  cases m with
  | ok xs =>
    intro I1 H1 u f1 r1
    refine jb I1 H1 σ _ (st.step f1) ?_
    have p1 := PostE.up p f1
    cases mi with
    | ok i =>
      intro I2 H2 v f2 r2
      have p2 : PostE X.K (atS xs i) (rp rStr) I2 H2 _ Q := PostE.up p1 f2
      obtain ⟨c, h1, h2, p3⟩ := atS_post p2
      exact ⟨xs, i, c, r1, r2, h1, h2, p3 I2 H2 _ (Fm.refl f2.ih) rfl⟩
    | err e => exact p1
    | stuck => exact p1
  | err e => exact p
  | stuck => exact p
end
end L2.Tr

namespace L2.Tr
open PySem PySem.Spec PyProof.Rows
section
variable {α β γ δ ε : Type} {X : Cx} {I0 H0 : Hp} {W : WX} {ctx : List (Option SF)} {mem : List MF} {e a b c o : Expr} {es bs : List Expr} {kws : List Keyword} {pos pos' kpos : Pos} {n x : Str} {nm : Option Str} {r : Rp α}
variable {R : Hp → Hp → List V → δ → Prop} {R' : Hp → Hp → List V → ε → Prop} {md : Res δ} {me : Res ε} {g : δ → ε → Res (List α)} {ks : List Str}
end
end L2.Tr

namespace L2.Tr
open PySem PySem.Spec PyProof.Rows
section
variable {α β γ δ T U : Type}
end
def TP (t : List Int) : Prop := ∃ a b c : Int, t = [a, b, c] ∧ 0 ≤ a ∧ (0 ≤ b ∧ b < 2 ^ 40) ∧ (0 ≤ c ∧ c < 2 ^ 40)
end L2.Tr

namespace L2.Tr
open PySem PySem.Spec PyProof.Rows He
section
variable {α β γ : Type} {X : Cx} {I0 H0 I H : Hp} {W : WX} {ctx : List (Option SF)} {mem : List MF} {e a b c o : Expr} {pos pos' p2 : Pos} {n : Str} {σ : St} {Q : VK}
def ctA (K : PySem.W.Frag) (C : Addr) (f : Str) : Addr := match PySem.W.findCls K (.ref C) (.type "type") f with
  | some (.val (.ref a)) => a
  | _ => 0
structure CTup (K : PySem.W.Frag) (C : Addr) (f : Str) (zs : List Str) : Prop where
  rd : ClX.CRead K C (.type "type")
  cv : ClX.CVal K C (.type "type") f (.ref (ctA K C f)) (.ref (ctA K C f))
  sq : ∀ H, SqT K H (ctA K C f) (zs.map V.str)
end
section
variable {fs : List FB} {fn : List DX} {ts : List Tab} {w : World} {K : PySem.W.Frag}
theorem SaysZ.y (c : SaysZ fs fn ts w K) : SaysY fs fn K := congrArg (fun z : AlZ => z.1) c
theorem SaysZ.fact (c : SaysZ fs fn ts w K) (i : Nat) {f : FB} (h : fs[i]? = some f := by rfl) : f K = true := c.y.fact i h
theorem SaysZ.def_ (c : SaysZ fs fn ts w K) (i : Nat) {d : DX} (h : fn[i]? = some d := by rfl) : ∃ fd, FunD K d.name d.qual d.params d.body d.scope (d.dfl.map (Dv.v K)) (d.kwd.map fun q => (q.1, q.2.v K)) (d.at_ K) fd := c.y.def_ i h
end
end L2.Tr

namespace L2.Tr
open PySem PySem.Spec PyProof.Rows
section
variable {α β γ S L : Type} {X : Cx} {I0 H0 : Hp} {W : WX} {Kx : KnowsX} {ctx cw : List (Option SF)} {mem : List MF} {body suite : List Stmt} {b₀ : Stmt} {h₀ : ExceptHandler} {pos pos' np : Pos} {n x f : Str} {rr : Ra γ} {G' : S → Knows} {GL : L → Knows}
def hdsM : List (List (Str × Bool) × (Exn → Res (Fl S L γ))) → Exn → Res (Fl S L γ)
  | [], e => .err e
  | (Ls, h) :: r, e => match Ls.lookup e.cls with
    | some true => (match h e with
      | .ok y => .ok y
      | _ => .stuck)
    | some false => hdsM r e
    | none => .stuck
def tsW (X : Cx) (ss : List Stmt) : Addr → Value → Option Addr → TS := fun a cls d D σ H => ∀ oe pn, L2N.Zn cls d oe → (∃ vs, oe.data = .fields vs) → wB (X.suite a ((a, oe) :: pn)) ss D σ H
inductive JHds (X : Cx) (I0 H0 : Hp) (cw : List (Option SF)) (mem : List MF) (G' : S → Knows) (GL : L → Knows) (rr : Ra γ) : List ExceptHandler → List (Value × (Addr → Value → Option Addr → TS)) → List (List (Str × Bool) × (Exn → Res (Fl S L γ))) → Prop
  | nil : JHds X I0 H0 cw mem G' GL rr [] [] []
  | only {x : Str} {cv : Value} {b₀ : Stmt} {suite : List Stmt} {np pos' : Pos} {hds : List ExceptHandler} {l : List (Value × (Addr → Value → Option Addr → TS))} {Ls : List (Str × Bool)} {mh : Exn → Res (Fl S L γ)} {ms : List (List (Str × Bool) × (Exn → Res (Fl S L γ)))}
      (js : ∀ (a : Addr) (oe : Obj) (ee : Exn) (d : Option Addr) (pn : List (Addr × Obj)), (ee.cls, true) ∈ Ls → JG (X.suite a ((a, oe) :: pn)) I0 H0 (fun _ _ _ _ => False) (fun _ _ _ _ => True) (Stt I0 H0 cw mem) (b₀ :: suite) (mh ee) G' GL rr)
      (hL : ∀ y b, (y, b) ∈ Ls → PySem.W.exmOne X.K (.ref (He.ga X.K y)) cv = some b) (hc : Names X x cv) (r : JHds X I0 H0 cw mem G' GL rr hds l ms) :
      JHds X I0 H0 cw mem G' GL rr (.ExceptHandler (some (.Name x np)) none (b₀ :: suite) pos' :: hds) ((cv, tsW X (b₀ :: suite)) :: l) ((Ls, mh) :: ms)
  | as_ {x n : Str} {cv : Value} {b₀ : Stmt} {suite : List Stmt} {np pos' : Pos} {hds : List ExceptHandler} {l : List (Value × (Addr → Value → Option Addr → TS))} {Ls : List (Str × Bool)} {mh : Exn → Res (Fl S L γ)} {ms : List (List (Str × Bool) × (Exn → Res (Fl S L γ)))} (i : Nat)
      (js : ∀ (a : Addr) (oe : Obj) (ee : Exn) (d : Option Addr) (pn : List (Addr × Obj)), L2N.Zn (.ref (He.ga X.K ee.cls)) d oe → (∃ vs, oe.data = .fields vs) → (ee.cls, true) ∈ Ls → (d = none → ee.pay = []) → (∀ q, d = some q → ee.pay ≠ []) → JG (X.suite a ((a, oe) :: pn)) I0 H0 (fun _ _ _ _ => False) (fun _ _ _ _ => True) (Stt I0 H0 (cw.set i (some ⟨rExc a, ()⟩)) (exm X.K d ee ++ mem)) (b₀ :: suite) (mh ee) (fun s I H σ => G' s I H (σ.set i none)) (fun s I H σ => GL s I H (σ.set i none)) rr)
      (hL : ∀ y b, (y, b) ∈ Ls → PySem.W.exmOne X.K (.ref (He.ga X.K y)) cv = some b) (hc : Names X x cv) (hi : X.N[i]? = some n) (hln : X.env.kindOf n = some .local) (r : JHds X I0 H0 cw mem G' GL rr hds l ms) :
      JHds X I0 H0 cw mem G' GL rr (.ExceptHandler (some (.Name x np)) (some n) (b₀ :: suite) pos' :: hds) ((cv, tsAs i (tsW X (b₀ :: suite))) :: l) ((Ls, mh) :: ms)
theorem JHds.w {hds : List ExceptHandler} {l : List (Value × (Addr → Value → Option Addr → TS))} {ms : List (List (Str × Bool) × (Exn → Res (Fl S L γ)))} (h : JHds X I0 H0 cw mem G' GL rr hds l ms) {I I' H' : Hp} {σ' : L2.St} {d : Option Addr} {cls : Value} {ee : Exn} {D : Ends} (sm : Same I I') (g : Stt I0 H0 cw mem I' H' σ') (fr : Fr H0 d) (hxr : ExR X.K I' H' ee cls d) (hmx : NoXd mem)
    (hx : ∀ I H σ d, Stt I0 H0 cw mem I H σ → Fr H0 d → Kx I H σ d) (p : PostG X I0 H0 W Kx I (hdsM ms ee) G' GL rr D) : wMany X.K W D l cls d σ' H' := by
  induction h with
  | nil => exact p I' H' σ' cls d (hx _ _ _ _ g fr) hxr
  | @only x cv b₀ suite np pos' hds l Ls mh ms js hL hc r ih =>
    have p1 : PostG X I0 H0 W Kx I (match Ls.lookup ee.cls with
      | some true => (match mh ee with
        | .ok y => .ok y
        | _ => .stuck)
      | some false => hdsM ms ee
      | none => .stuck) G' GL rr D := p
    obtain ⟨ec, hxr2⟩ := id hxr
    cases hl : Ls.lookup ee.cls with
    | none => rw [hl] at p1; exact p1.elim
    | some bb =>
      rw [hl] at p1
      refine ⟨bb, by rw [ec]; exact hL _ _ (lookup_mem hl), fun hb a ha oe pn' hz hf' => ?_, fun hb => ?_⟩
      · subst hb
        refine js a oe ee d pn' (lookup_mem hl) I' H' _ _ g ?_
        have p2 : PostG X I0 H0 W Kx I (match mh ee with
          | .ok y => .ok y
          | _ => .stuck) G' GL rr D := p1
        revert p2
        generalize mh ee = z
        intro p2
        cases z with
        | ok y =>
          cases y with
          | nx s => exact fun I2 H2 σ2 s2 q => p2 I2 H2 _ (sm.trans s2) q
          | bk s => exact fun I2 H2 σ2 s2 q => p2 I2 H2 _ (sm.trans s2) q
          | ct s => exact fun I2 H2 σ2 s2 q => p2 I2 H2 _ (sm.trans s2) q
          | rt y => exact p2
        | err _ => exact p2.elim
        | stuck => exact p2.elim
      · subst hb
        exact ih p1
  | @as_ x n cv b₀ suite np pos' hds l Ls mh ms i js hL hc hi hln r ih =>
    have p1 : PostG X I0 H0 W Kx I (match Ls.lookup ee.cls with
      | some true => (match mh ee with
        | .ok y => .ok y
        | _ => .stuck)
      | some false => hdsM ms ee
      | none => .stuck) G' GL rr D := p
    obtain ⟨ec, hxr2⟩ := id hxr
    cases hl : Ls.lookup ee.cls with
    | none => rw [hl] at p1; exact p1.elim
    | some bb =>
      rw [hl] at p1
      refine ⟨bb, by rw [ec]; exact hL _ _ (lookup_mem hl), fun hb a ha oe pn' hz hf' => ?_, fun hb => ?_⟩
      · subst hb
        rw [ec] at hz
        refine js a oe ee d pn' hz hf' (lookup_mem hl) (fun z => by subst z; exact hxr2) (fun q z => by subst z; exact hxr2.1) I' H' _ _ ((g.set i (r := rExc a) (x := ()) rfl).exm fr hxr hmx) ?_
        have p2 : PostG X I0 H0 W Kx I (match mh ee with
          | .ok y => .ok y
          | _ => .stuck) G' GL rr D := p1
        revert p2
        generalize mh ee = z
        intro p2
        cases z with
        | ok y =>
          cases y with
          | nx s => exact fun I2 H2 σ2 s2 q => p2 I2 H2 _ (sm.trans s2) q
          | bk s => exact fun I2 H2 σ2 s2 q => p2 I2 H2 _ (sm.trans s2) q
          | ct s => exact fun I2 H2 σ2 s2 q => p2 I2 H2 _ (sm.trans s2) q
          | rt y => exact p2
        | err _ => exact p2.elim
        | stuck => exact p2.elim
      · subst hb
        exact ih p1
end
end L2.Tr

namespace L2.Tr
open PySem PySem.Spec PyProof.Rows He
class DpC {α : Type} (r : Rp α) where
  deq : DecidableEq α
  enc : α → PyData
  lay : α → Bool
  dep : Nat
  dp : ∀ {K : PySem.W.Frag} {I H : Hp} {v : V} {x : α}, Same I H → r I v x → Dp K H v (enc x)
  eq : ∀ x y, PyData.eqv (enc x) (enc y) = decide (x = y)
  cl : ∀ x, lay x = true → PyData.canLay0 (enc x) = true
  dd : ∀ x, PyData.depth (enc x) ≤ dep
instance : DpC rInt where
  deq := inferInstance
  enc := .int
  lay := fun _ => true
  dep := 0
  dp := fun _ h => by rw [show _ = V.int _ from h]; exact .int _
  eq := fun x y => by
    show (x == y) = _
    by_cases h : x = y <;> simp [h]
  cl := fun _ _ => by simp only [PyData.canLay0]
  dd := fun _ => by simp only [PyData.depth]; exact Nat.le_refl _
instance : DpC rStr where
  deq := inferInstance
  enc := .str
  lay := fun x => PyData.strOk x
  dep := 0
  dp := fun _ h => by rw [show _ = V.str _ from h]; exact .str _
  eq := fun x y => by
    show (x == y) = _
    by_cases h : x = y <;> simp [h]
  cl := fun x h => by simp only [PyData.canLay0]; exact h
  dd := fun _ => by simp only [PyData.depth]; exact Nat.le_refl _
instance : DpC rBl where
  deq := inferInstance
  enc := .bool
  lay := fun _ => true
  dep := 0
  dp := fun _ h => by rw [show _ = V.bl _ from h]; exact .bl _
  eq := fun x y => by
    show (x == y) = _
    by_cases h : x = y <;> simp [h]
  cl := fun _ _ => by simp only [PyData.canLay0]
  dd := fun _ => by simp only [PyData.depth]; exact Nat.le_refl _
section
variable {α β : Type} {r : Rp α}
theorem eqvAll_map [d : DpC r] : ∀ xs ys : List α, PyData.eqvAll (xs.map d.enc) (ys.map d.enc) = @decide (xs = ys) (@instDecidableEqList _ d.deq xs ys)
  | [], [] => by simp [PyData.eqvAll]
  | [], _ :: _ => by simp [PyData.eqvAll]
  | _ :: _, [] => by simp [PyData.eqvAll]
  | x :: xs, y :: ys => by
    have := d.deq
    rw [List.map_cons, List.map_cons]
    show (PyData.eqv _ _ && PyData.eqvAll _ _) = _
    rw [eqvAll_map xs ys, d.eq]
    by_cases h : x = y <;> by_cases h' : xs = ys <;> simp [h, h']
theorem dpAll_map [d : DpC r] {K : PySem.W.Frag} {I H : Hp} (s : Same I H) : ∀ {vs : List V} {xs : List α}, Paired (r I) vs xs → DpAll K H vs (xs.map d.enc)
  | _, _, .nil => .nil
  | _, _, .cons h t => .cons (d.dp s h) (dpAll_map s t)
theorem canAll_map [d : DpC r] : ∀ {xs : List α}, xs.all d.lay = true → PyData.canLayAll0 (xs.map d.enc) = true
  | [], _ => by simp only [List.map_nil, PyData.canLayAll0]
  | x :: xs, h => by
    rw [List.all_cons, Bool.and_eq_true] at h
    simp only [List.map_cons, PyData.canLayAll0]
    rw [d.cl x h.1, canAll_map h.2]; rfl
theorem depAll_map [d : DpC r] : ∀ xs : List α, PyData.depthAll (xs.map d.enc) ≤ d.dep
  | [] => by simp only [List.map_nil, PyData.depthAll]; exact Nat.zero_le _
  | x :: xs => by
    simp only [List.map_cons, PyData.depthAll]
    exact Nat.max_le.mpr ⟨d.dd x, depAll_map xs⟩
instance dpcL [d : DpC r] : DpC (rL r) where
  deq := @instDecidableEqList _ d.deq
  enc := fun xs => .list (xs.map d.enc)
  lay := fun xs => xs.all d.lay
  dep := d.dep + 1
  dp := fun s ⟨l, vs, e, h, p⟩ => by rw [e]; exact .lst (SqL.of (s _ _ h)) (dpAll_map s p)
  eq := fun x y => by show PyData.eqvAll _ _ = _; exact eqvAll_map x y
  cl := fun x h => by simp only [PyData.canLay0]; exact canAll_map h
  dd := fun x => by simp only [PyData.depth]; have := depAll_map (r := r) x; omega
instance [d : DpC r] : DpC (rT r) where
  deq := @instDecidableEqList _ d.deq
  enc := fun xs => .tuple (xs.map d.enc)
  lay := fun xs => xs.all d.lay
  dep := d.dep + 1
  dp := fun s ⟨l, vs, e, h, p⟩ => by rw [e]; exact .tup (SqT.of (s _ _ h)) (dpAll_map s p)
  eq := fun x y => by show PyData.eqvAll _ _ = _; exact eqvAll_map x y
  cl := fun x h => by simp only [PyData.canLay0]; exact canAll_map h
  dd := fun x => by simp only [PyData.depth]; have := depAll_map (r := r) x; omega
class DpL {δ : Type} (R : Hp → Hp → List V → δ → Prop) where
  deq : DecidableEq δ
  enc : δ → List PyData
  lay : δ → Bool
  dep : Nat
  dp : ∀ {K : PySem.W.Frag} {I H : Hp} {vs : List V} {x : δ}, Same I H → R I I vs x → DpAll K H vs (enc x)
  eq : ∀ x y, PyData.eqvAll (enc x) (enc y) = decide (x = y)
  cl : ∀ x, lay x = true → PyData.canLayAll0 (enc x) = true
  dd : ∀ x, PyData.depthAll (enc x) ≤ dep
instance : DpL aNil where
  deq := inferInstance
  enc := fun _ => []
  lay := fun _ => true
  dep := 0
  dp := fun _ h => by rw [show _ = [] from h]; exact .nil
  eq := fun _ _ => by simp [PyData.eqvAll]
  cl := fun _ _ => by simp only [PyData.canLayAll0]
  dd := fun _ => by simp only [PyData.depthAll]; exact Nat.le_refl _
instance {δ : Type} {R : Hp → Hp → List V → δ → Prop} [d : DpC r] [l : DpL R] : DpL (aCons (rp r) R) where
  deq := @instDecidableEqProd _ _ d.deq l.deq
  enc := fun x => d.enc x.1 :: l.enc x.2
  lay := fun x => d.lay x.1 && l.lay x.2
  dep := max d.dep l.dep
  dp := fun s ⟨v, ws, e, h, h'⟩ => by rw [e]; exact .cons (d.dp s h) (l.dp s h')
  eq := fun x y => by
    have := d.deq
    have := l.deq
    show (PyData.eqv _ _ && PyData.eqvAll _ _) = _
    rw [d.eq, l.eq]
    obtain ⟨a, b⟩ := x
    obtain ⟨a', b'⟩ := y
    by_cases h : a = a' <;> by_cases h' : b = b' <;> simp [h, h']
  cl := fun x h => by
    rw [Bool.and_eq_true] at h
    simp only [PyData.canLayAll0]
    rw [d.cl _ h.1, l.cl _ h.2]; rfl
  dd := fun x => by
    simp only [PyData.depthAll]
    have h1 := d.dd x.1
    have h2 := l.dd x.2
    omega
instance {δ : Type} {R : Hp → Hp → List V → δ → Prop} [l : DpL R] : DpC (rTu R) where
  deq := l.deq
  enc := fun x => .tuple (l.enc x)
  lay := l.lay
  dep := l.dep + 1
  dp := fun s ⟨a, vs, e, h, p⟩ => by rw [e]; exact .tup (SqT.of (s _ _ h)) (l.dp s p)
  eq := fun x y => by show PyData.eqvAll _ _ = _; exact l.eq x y
  cl := fun x h => by simp only [PyData.canLay0]; exact l.cl x h
  dd := fun x => by simp only [PyData.depth]; have := l.dd x; omega
theorem shaped_dp [d : DpC r] (hd : d.dep ≤ 64) {x : α} (h : d.lay x = true) : SeqAt.shaped (d.enc x) = true := by
  unfold SeqAt.shaped
  rw [d.cl x h, decide_eq_true (Nat.le_trans (d.dd x) hd)]
  rfl
def eqD (r : Rp α) [d : DpC r] (x y : α) : Res Bool := Res.guard (d.lay x = true ∧ d.lay y = true) (.ok (@decide (x = y) (d.deq x y)))
variable {X : Cx} {W : WX}
theorem opj_eqDr [d : DpC r] (hu : X.A.units + 64 < cLine) (hd : d.dep ≤ 63 := by decide) : OpJ X W (compareOp .Eq) (rdL X.K (rp r)) (rdL X.K (rp r)) (fun x y => eqD (rL r) x y) (rp rBl) := fun I H σ Q u v x y s ⟨l, vs, e1, h1, p1⟩ ⟨l', vs', e2, h2, p2⟩ p => by
  subst e1; subst e2
  obtain ⟨g, p⟩ := post_guard p
  have hd' : (dpcL (r := r)).dep ≤ 64 := by show d.dep + 1 ≤ 64; omega
  exact OpR.w (op_eqD hu) ⟨.list (x.map d.enc), .list (y.map d.enc), .lst h1 (dpAll_map s p1), .lst h2 (dpAll_map s p2), shaped_dp (r := rL r) hd' g.1, shaped_dp (r := rL r) hd' g.2, p I H _ (Fm.refl s) (by show V.bl (PyData.eqvAll _ _) = _; rw [eqvAll_map])⟩
theorem opj_neDr [d : DpC r] (hu : X.A.units + 64 < cLine) (hd : d.dep ≤ 63 := by decide) : OpJ X W (compareOp .NotEq) (rdL X.K (rp r)) (rdL X.K (rp r)) (fun x y => (eqD (rL r) x y).bind fun z => .ok (!z)) (rp rBl) := fun I H σ Q u v x y s ⟨l, vs, e1, h1, p1⟩ ⟨l', vs', e2, h2, p2⟩ p => by
  subst e1; subst e2
  have hd' : (dpcL (r := r)).dep ≤ 64 := by show d.dep + 1 ≤ 64; omega
  have p : PostE X.K ((Res.guard ((dpcL (r := r)).lay x = true ∧ (dpcL (r := r)).lay y = true) (.ok (@decide (x = y) ((dpcL (r := r)).deq x y)))).bind fun z => .ok (!z)) (rp rBl) I H (fun cls d H' => W cls d σ H') Q := p
  by_cases g : (dpcL (r := r)).lay x = true ∧ (dpcL (r := r)).lay y = true
  · rw [Res.guard_pos g] at p
    exact OpR.w (op_neD hu) ⟨.list (x.map d.enc), .list (y.map d.enc), .lst h1 (dpAll_map s p1), .lst h2 (dpAll_map s p2), shaped_dp (r := rL r) hd' g.1, shaped_dp (r := rL r) hd' g.2, p I H _ (Fm.refl s) (by show V.bl (!PyData.eqvAll _ _) = _; rw [eqvAll_map])⟩
  · unfold Res.guard at p
    rw [if_neg g] at p
    exact p.elim
end
end L2.Tr

namespace L2.Tr
open PySem PySem.Spec PyProof.Rows He
section
variable {α β γ δ : Type} {X : Cx} {I0 H0 I H : Hp} {W : WX} {ctx : List (Option SF)} {mem : List MF} {e a b c o : Expr} {es : List Expr} {pos pos' p2 apos : Pos} {n : Str} {σ : St} {Q : VK} {r : Rp α} {R : Hp → Hp → List V → δ → Prop} {ma : Res α} {md : Res δ} {rb : Ra β}
def rLu (R : Hp → Hp → List V → δ → Prop) : Rp δ := fun I v x => ∃ l vs, v = .ref l ∧ I l = some (.lst vs) ∧ R I I vs x
instance [m : MoR R] : Mo (rLu R) := ⟨fun s ⟨l, vs, e, h, p⟩ => ⟨l, vs, e, s _ _ h, m.up s s p⟩⟩
theorem opj_addS : OpJ X W (binaryOp .Add) (rp rStr) (rp rStr) (fun x y => Res.guard (x.length + y.length ≤ sizeLine) (.ok (x ++ y))) (rp rStr) := fun I H σ Q u v x y s hu hv p => by
  obtain ⟨g, p⟩ := post_guard p
  cases (show u = V.str x from hu)
  cases (show v = V.str y from hv)
  exact OpR.w op_add_str ⟨x, y, rfl, rfl, g, p I H _ (Fm.refl s) rfl⟩
def rCT (K : PySem.W.Frag) (C : Addr) (f : Str) : Ra Unit := fun _ _ v _ => v = .ref (ctA K C f) ∧ ∃ o, K.lookup (ctA K C f) = some o ∧ o.cls = .type "tuple"
instance {K : PySem.W.Frag} {C : Addr} {f : Str} : MoA (rCT K C f) := ⟨fun _ _ h => h⟩
end
end L2.Tr

namespace L2.Tr
open PySem PySem.Spec PyProof.Rows He
section
variable {X : Cx} {I0 H0 : Hp} {W : WX} {ctx : List (Option SF)} {mem : List MF} {pos : Pos}
end
end L2.Tr

namespace L2.Tr
open PySem PySem.Spec PyProof.Rows
section
variable {α β γ δ S T : Type} {X : Cx} {I0 H0 : Hp} {W : WX} {Kx : KnowsX} {ctx : List (Option SF)} {mem : List MF} {e a b c o : Expr} {pos : Pos}
end
end L2.Tr

namespace L2.Tr
open PySem PySem.Spec PyProof.Rows
section
variable {α β γ S L : Type} {X : Cx} {I0 H0 : Hp} {W : WX} {Kx : KnowsX} {ctx ctx' : List (Option SF)} {mem : List MF} {st : Stmt} {rr : Ra γ}
end
end L2.Tr

namespace L2.Tr
open PySem PySem.Spec PyProof.Rows L2H
def FnL (P : Program) (w : World) (K : PySem.W.Frag) (mg : Str → Option Value) (base : Heap) (k : Nat) (f : Addr) (sp : Sp) : Prop :=
  ∀ (A : Around) (outer : List Env) (s : Shared) (H : Hp) (us : List Value) (vs : List V) (Q : VK) (E : XK) (p : Addr × Obj), RoomH k A → Hot1 A p → PinOk outer H s p → Env0 P w K mg base A outer s H → Vals vs us → sp vs H Q E →
    codeAny (model P w) A (.call (.ref f) ⟨us, []⟩) (CR (L2N.CX P w) outer P w H s Q E) s
section
variable {α β γ δ S L : Type} {P : Program} {w : World} {K : PySem.W.Frag} {mg : Str → Option Value} {base : Heap} {x qual : Str} {params : Arguments} {body : List Stmt} {scope : Scope} {f : Addr} {fd : FuncData} {N ps : List Str} {k : Nat} {r : Ra γ} {R : Hp → Hp → List V → δ → Prop} {m : δ → Res γ}
theorem FnL.nice {m' : δ → Res γ} (F : FnL P w K mg base k f (spF K R m r)) (h : ∀ d, m' d = .stuck ∨ m' d = m d) : FnL P w K mg base k f (spF K R m' r) := fun A outer s H us vs Q E p hr ho hp e0 rv ⟨I, d, sm, hR, post⟩ => by
  rcases h d with e | e
  · rw [e] at post; exact post.elim
  · rw [e] at post; exact F A outer s H us vs Q E p hr ho hp e0 rv ⟨I, d, sm, hR, post⟩
end
section
variable {α β γ δ : Type} {X : Cx} {W : WX} {f f' : Addr} {k : Nat} {ra : Ra α} {rb : Ra β} {rc : Ra γ} {R : Hp → Hp → List V → δ → Prop} {m : δ → Res γ}
variable {g : Rat × Num × Unit → Res γ}
theorem roomH_suite {k : Nat} {X : Cx} {ad : Addr} {pn : List (Addr × Obj)} (r : Room k X.A) : RoomH k (X.suite ad pn).A := ⟨r.dp, r.un⟩
end
end L2.Tr

namespace L2.Tr
open PySem PySem.Spec PyProof.Rows He
inductive OF where
  | im (s : SF)
  | ls {α : Type} (r : Rp α) (mo : Mo r) (xs : List α)
def OFR (I H : Hp) : List (Str × V) → List (Str × OF) → List Addr → Prop
  | [], [], as => as = []
  | p :: fs, (n, .im s) :: gs, as => p.1 = n ∧ s.r I p.2 s.x ∧ OFR I H fs gs as
  | p :: fs, (n, .ls r _ xs) :: gs, as => ∃ a as', as = a :: as' ∧ p.1 = n ∧ p.2 = .ref a ∧ (∃ vs, H a = some (.lst vs) ∧ Paired (r I) vs xs) ∧ OFR I H fs gs as'
  | [], _ :: _, _ => False
  | _ :: _, [], _ => False
theorem OFR.up {I I' H H' : Hp} (s : Same I I') : ∀ {gs : List (Str × OF)} {fs : List (Str × V)} {as : List Addr}, (∀ a, a ∈ as → H' a = H a) → OFR I H fs gs as → OFR I' H' fs gs as
  | [], [], _, _, h => h
  | (n, .im q) :: gs, p :: fs, as, k, ⟨a, b, c⟩ => ⟨a, q.mo.up s b, OFR.up s k c⟩
  | (n, .ls r mo xs) :: gs, p :: fs, as, k, ⟨a, as', e, h1, h2, ⟨vs, h3, h4⟩, h5⟩ => by
    subst e
    exact ⟨a, as', rfl, h1, h2, ⟨vs, by rw [k a List.mem_cons_self]; exact h3, Paired.mapP h4 fun _ _ q => mo.up s q⟩, OFR.up s (fun b hb => k b (List.mem_cons_of_mem _ hb)) h5⟩
  | [], _ :: _, _, _, h => h.elim
  | (_, .im _) :: _, [], _, _, h => h.elim
  | (_, .ls _ _ _) :: _, [], _, _, h => h.elim
theorem OFR.length {I H : Hp} : ∀ {gs : List (Str × OF)} {fs : List (Str × V)} {as : List Addr}, OFR I H fs gs as → fs.length = gs.length
  | [], [], _, _ => rfl
  | (n, .im q) :: gs, p :: fs, as, ⟨_, _, c⟩ => congrArg Nat.succ (OFR.length c)
  | (n, .ls r mo xs) :: gs, p :: fs, as, ⟨_, _, _, _, _, _, c⟩ => congrArg Nat.succ (OFR.length c)
  | [], _ :: _, _, h => h.elim
  | (_, .im _) :: _, [], _, h => h.elim
  | (_, .ls _ _ _) :: _, [], _, h => h.elim
theorem OFR.none {I H : Hp} {f : Str} : ∀ {gs : List (Str × OF)} {fs : List (Str × V)} {as : List Addr}, OFR I H fs gs as → gs.lookup f = none → fs.lookup f = none
  | [], [], _, _, _ => rfl
  | (n, o) :: gs, (k, v) :: fs, as, h, e => by
    have hk : k = n ∧ ∃ as', OFR I H fs gs as' := by
      cases o with
      | im q => exact ⟨h.1, _, h.2.2⟩
      | ls r mo xs => obtain ⟨_, as', _, h1, _, _, h5⟩ := h; exact ⟨h1, as', h5⟩
    obtain ⟨rfl, as', h'⟩ := hk
    rw [List.lookup_cons] at e ⊢
    by_cases hq : (f == k) = true
    · rw [hq] at e; cases e
    · rw [Bool.not_eq_true] at hq
      rw [hq] at e ⊢
      exact OFR.none h' e
  | [], _ :: _, _, h, _ => h.elim
  | (_, .im _) :: _, [], _, h, _ => h.elim
  | (_, .ls _ _ _) :: _, [], _, h, _ => h.elim
section
variable {α β γ δ S T L : Type} {X : Cx} {I0 H0 I H I1 H1 : Hp} {W : WX} {Kx : KnowsX} {G : Knows} {ctx : List (Option SF)} {mem : List MF} {C : T → List MF} {t0 t : T} {e a b c o : Expr} {es : List Expr} {st : Stmt} {ss : List Stmt} {pos pos' p2 : Pos} {n : Str} {σ : St} {Q : VK} {r : Rp α} {ra : Ra α} {rb : Ra β} {rc : Rp γ} {ma : Res α} {md : Res δ} {R : Hp → Hp → List V → δ → Prop}
def rdO (Cl : Addr) (gs : S → List (Str × OF)) : Ra S := fun I H v x => ∃ l dx fs as, v = .ref l ∧ H l = some (.ins Cl dx fs) ∧ OFR I H fs (gs x) as ∧ ∀ a, a ∈ as → H a ≠ none
theorem same_at {H H' : Hp} {a : Addr} (t : Same H H') (h : H a ≠ none) : H' a = H a := by
  cases z : H a with
  | none => exact absurd z h
  | some o => exact t _ _ z
instance {Cl : Addr} {gs : S → List (Str × OF)} : MoA (rdO Cl gs) := ⟨fun s t ⟨l, dx, fs, as, e, h, q, k⟩ => ⟨l, dx, fs, as, e, t _ _ h, q.up s fun a ha => same_at t (k a ha), fun a ha => by rw [same_at t (k a ha)]; exact k a ha⟩⟩
end
end L2.Tr

namespace L2.Tr
open PySem PySem.Spec PyProof.Rows He
section
variable {α β γ δ ε S T L : Type} {X : Cx} {I0 H0 I H I1 H1 : Hp} {W : WX} {Kx : KnowsX} {G : Knows} {ctx : List (Option SF)} {mem : List MF} {C : T → List MF} {t0 t : T} {e a b c o : Expr} {es : List Expr} {st : Stmt} {ss : List Stmt} {pos pos' p2 : Pos} {n : Str} {σ : St} {Q : VK} {r : Rp α} {ra : Ra α} {rb : Ra β} {rc : Rp γ} {rr : Ra γ} {ma : Res α} {md : Res δ} {R : Hp → Hp → List V → δ → Prop}
inductive Pk : List (Str × SF) → List MF → List (Str × OF) → Prop
  | nil : Pk [] [] []
  | im {n : Str} {s : SF} {gs ms os} : Pk gs ms os → Pk ((n, s) :: gs) ms ((n, .im s) :: os)
  | ls {n : Str} {l : Addr} {α : Type} {r : Rp α} {mo : Mo r} {xs : List α} {gs ms os} : Pk gs ms os → Pk ((n, SF.mk (rRef l) ()) :: gs) (@MF.lst α l r mo xs :: ms) ((n, .ls r mo xs) :: os)
theorem JE.some {o : Option α} {y : α} {r : Rp α} (j : JE X I0 H0 W ctx mem e (.ok o) (rp (rOp r))) (h : o = some y) : JE X I0 H0 W ctx mem e (.ok y) (rp r) := by
  subst h
  exact fun I H σ Q st p => j I H σ Q st fun I' H' v f q => p I' H' v f q
theorem JE.none {o : Option α} {r : Rp α} (j : JE X I0 H0 W ctx mem e (.ok o) (rp (rOp r))) (h : o = none) : JE X I0 H0 W ctx mem e (.ok ()) (rp rNon) := by
  subst h
  exact fun I H σ Q st p => j I H σ Q st fun I' H' v f q => p I' H' v f q
theorem JR.case {o : Option α} {m1 : Res γ} {m2 : α → Res γ} (k1 : o = none → JR X I0 H0 W Kx G ss m1 rr) (k2 : ∀ y, o = some y → JR X I0 H0 W Kx G ss (m2 y) rr) : JR X I0 H0 W Kx G ss (optM o m1 m2) rr := by
  cases o with
  | none => exact k1 rfl
  | some y => exact k2 y rfl
theorem JN.case {o : Option α} {G' : S → Knows} {m1 : Res S} {m2 : α → Res S} (k1 : o = none → JN X W Kx G ss m1 G') (k2 : ∀ y, o = some y → JN X W Kx G ss (m2 y) G') : JN X W Kx G ss (optM o m1 m2) G' := by
  cases o with
  | none => exact k1 rfl
  | some y => exact k2 y rfl
theorem JG.case {o : Option α} {G' : S → Knows} {GL : L → Knows} {m1 : Res (Fl S L γ)} {m2 : α → Res (Fl S L γ)} (k1 : o = none → JG X I0 H0 W Kx G ss m1 G' GL rr) (k2 : ∀ y, o = some y → JG X I0 H0 W Kx G ss (m2 y) G' GL rr) : JG X I0 H0 W Kx G ss (optM o m1 m2) G' GL rr := by
  cases o with
  | none => exact k1 rfl
  | some y => exact k2 y rfl
end
end L2.Tr
namespace L2.Tr
open PySem PySem.Spec PyProof.Rows He
section
variable {β S : Type} {X : Cx} {W : WX}
end
end L2.Tr

namespace L2.Tr
open PySem PySem.Spec PyProof.Rows He
end L2.Tr

namespace L2.Tr
open PySem PySem.Spec PyProof.Rows He
section
variable {X : Cx} {I0 H0 : Hp} {W : WX} {Kx : KnowsX} {ctx : List (Option SF)} {mem : List MF} {pos pos' : Pos} {n y : Str} {α : Type} {r : Rp α}
end
end L2.Tr

namespace L2.Tr
open PySem PySem.Spec PyProof.Rows He
def RowsR {α : Type} (I H : Hp) (r : Rp α) : List Addr → List (List α) → Prop
  | [], [] => True
  | a :: ls, xs :: xss => (∃ vs, H a = some (.lst vs) ∧ Paired (r I) vs xs) ∧ RowsR I H r ls xss
  | _, _ => False
theorem RowsR.up {α : Type} {r : Rp α} [mo : Mo r] {I I' H H' : Hp} (s : Same I I') : ∀ {ls : List Addr} {xss : List (List α)}, (∀ a, a ∈ ls → H' a = H a) → RowsR I H r ls xss → RowsR I' H' r ls xss
  | [], [], _, h => h
  | a :: ls, xs :: xss, k, ⟨⟨vs, h1, h2⟩, h3⟩ => ⟨⟨vs, by rw [k a List.mem_cons_self]; exact h1, Paired.mapP h2 fun _ _ q => mo.up s q⟩, RowsR.up s (fun b hb => k b (List.mem_cons_of_mem _ hb)) h3⟩
  | [], _ :: _, _, h => h.elim
  | _ :: _, [], _, h => h.elim
theorem RowsR.length {α : Type} {r : Rp α} {I H : Hp} : ∀ {ls : List Addr} {xss : List (List α)}, RowsR I H r ls xss → ls.length = xss.length
  | [], [], _ => rfl
  | _ :: _, _ :: _, ⟨_, h⟩ => congrArg Nat.succ (RowsR.length h)
  | [], _ :: _, h => h.elim
  | _ :: _, [], h => h.elim
theorem RowsR.snoc {α : Type} {r : Rp α} {I H : Hp} {a : Addr} {vs : List V} {xs : List α} (h1 : H a = some (.lst vs)) (h2 : Paired (r I) vs xs) : ∀ {ls : List Addr} {xss : List (List α)}, RowsR I H r ls xss → RowsR I H r (ls ++ [a]) (xss ++ [xs])
  | [], [], _ => ⟨⟨vs, h1, h2⟩, True.intro⟩
  | _ :: _, _ :: _, ⟨h3, h4⟩ => ⟨h3, RowsR.snoc h1 h2 h4⟩
  | [], _ :: _, h => h.elim
  | _ :: _, [], h => h.elim
def MF.tab {α : Type} (l : Addr) (r : Rp α) [m : Mo r] (xss : List (List α)) : MF :=
  ⟨fun I H fp => ∃ ls, fp = l :: ls ∧ H l = some (.lst (ls.map V.ref)) ∧ RowsR I H r ls xss,
   fun s ⟨ls, e, h1, h2⟩ => ⟨ls, e, h1, h2.up s fun _ _ => rfl⟩,
   fun k ⟨ls, e, h1, h2⟩ => ⟨ls, e, by rw [k l (by rw [e]; exact List.mem_cons_self)]; exact h1, h2.up (Same.refl _) fun a ha => k a (by rw [e]; exact List.mem_cons_of_mem _ ha)⟩⟩
section
variable {α β γ δ S L : Type} {X : Cx} {I0 H0 I H : Hp} {W : WX} {Kx : KnowsX} {ctx : List (Option SF)} {mem : List MF} {e a b c o elt iter ix ix2 : Expr} {pos pos' p2 : Pos} {n : Str} {σ : St} {r : Rp α} {rb : Rp β} {rr : Ra γ} {ss : List Stmt}
theorem Stt.row [mo : Mo r] {l D : Addr} {xs : List α} {acc : List (List α)} (s : Stt I0 H0 ctx (MF.lst l r xs :: MF.tab D r acc :: mem) I H σ) : ∃ ls, H D = some (.lst (ls.map V.ref)) ∧ I D = none ∧ ls.length = acc.length ∧ Stt I0 H0 ctx (MF.tab D r (acc ++ [xs]) :: mem) I (upd H D (.lst ((ls ++ [l]).map V.ref))) σ := by
  obtain ⟨fps, rg, nd, k⟩ := s.me
  match fps, rg, nd, k with
  | [], rg, _, _ => exact rg.elim
  | [_], ⟨_, rg⟩, _, _ => exact rg.elim
  | fp :: fq :: fps, ⟨⟨e1, ob, hl, vs, eo, pr⟩, ⟨ls, e2, hD, rows⟩, rg⟩, nd, k =>
    subst e1; subst eo; subst e2
    have nd0 : (l :: (D :: ls ++ fps.flatten)).Nodup := by simpa using nd
    have nl := (List.nodup_cons.mp nd0).1
    have nd1 := (List.nodup_cons.mp nd0).2
    have ndA := List.nodup_append.mp nd1
    have nD := (List.nodup_cons.mp ndA.1).1
    have kk : ∀ a, a = l ∨ a = D ∨ a ∈ ls ∨ a ∈ fps.flatten → H0 a = none ∧ I a = none ∧ H a ≠ none := fun a ha => k a (by
      simp only [List.flatten_cons, List.mem_append, List.mem_cons, List.not_mem_nil, or_false]
      rcases ha with h | h | h | h
      · exact .inl h
      · exact .inr (.inl (.inl h))
      · exact .inr (.inl (.inr h))
      · exact .inr (.inr h))
    have lD : l ≠ D := fun z => nl (by rw [z]; exact List.mem_append_left _ List.mem_cons_self)
    have kD := kk D (.inr (.inl rfl))
    refine ⟨ls, hD, kD.2.1, rows.length, ?_, s.len, s.sl, (D :: (ls ++ [l])) :: fps, ⟨⟨ls ++ [l], rfl, upd_same, ?_⟩, rg.up (Same.refl _) fun a ha => upd_ne fun z => ?_⟩, ?_, fun a ha => ?_⟩
    · exact ⟨s.fm.i, fun b u e => by rw [upd_ne (ne_of_none e kD.1)]; exact s.fm.h _ _ e, fun b u e => by rw [upd_ne (ne_of_none e kD.2.1)]; exact s.fm.ih _ _ e, s.fm.mu⟩
    · have rows' : RowsR I (upd H D (.lst ((ls ++ [l]).map V.ref))) r ls acc := rows.up (Same.refl _) fun a ha => upd_ne fun z => nD (z ▸ ha)
      exact rows'.snoc (by rw [upd_ne lD]; exact hl) pr
    · exact ndA.2.2 D List.mem_cons_self a ha z.symm
    · have p : (D :: (ls ++ [l]) ++ fps.flatten).Perm (l :: (D :: ls ++ fps.flatten)) := by
        have h1 : (D :: (ls ++ [l]) ++ fps.flatten) = (D :: ls) ++ l :: fps.flatten := by simp
        have h2 : (l :: (D :: ls ++ fps.flatten)) = l :: ((D :: ls) ++ fps.flatten) := rfl
        rw [h1, h2]; exact List.perm_middle
      show (List.flatten ((D :: (ls ++ [l])) :: fps)).Nodup
      rw [List.flatten_cons]
      exact p.nodup_iff.mpr nd0
    · have ha' : a = l ∨ a = D ∨ a ∈ ls ∨ a ∈ fps.flatten := by
        simp only [List.flatten_cons, List.mem_append, List.mem_cons, List.not_mem_nil, or_false] at ha
        rcases ha with (h | h | h) | h
        · exact .inr (.inl h)
        · exact .inr (.inr (.inl h))
        · exact .inl h
        · exact .inr (.inr (.inr h))
      obtain ⟨q1, q2, q3⟩ := kk a ha'
      refine ⟨q1, q2, ?_⟩
      by_cases z : a = D
      · rw [z, upd_same]; intro h; cases h
      · rw [upd_ne z]; exact q3
end
end L2.Tr

namespace L2.Tr
open PySem PySem.Spec PyProof.Rows L2H
section
variable {α β γ δ S T : Type} {X : Cx} {I0 H0 : Hp} {W : WX} {Kx : KnowsX} {G : Knows} {ctx : List (Option SF)} {mem : List MF} {e a b c o : Expr} {es bs : List Expr} {pos pos' : Pos} {n : Str} {ra : Ra α} {rb : Ra β} {rc : Ra γ} {ma : Res α} {r : Rp α} {f : Addr} {k : Nat} {R : Hp → Hp → List V → δ → Prop} {σ : L2.St} {H : Hp} {Q : VK}
end
section
variable {α β γ δ T : Type} {X : Cx} {I0 H0 I H I1 : Hp} {W : WX} {Kx : KnowsX} {ctx : List (Option SF)} {C : T → List MF} {t0 t : T} {e a b c : Expr} {es bs : List Expr} {pos : Pos} {Q : VK}
end
def pay2 {α β δ : Type} (g f : Str) (dg : Pay → Option β) (df : Pay → Option α) (h : α → β → Res δ) (ps : List (Str × Pay)) : Res δ := match ps with
  | [(g', q), (f', p)] => if g' = g ∧ f' = f then (match df p with
    | some y => (match dg q with
      | some z => h y z
      | none => .stuck)
    | none => .stuck) else .stuck
  | _ => .stuck
section
variable {α β γ S L : Type} {X : Cx} {I0 H0 : Hp} {W : WX} {Kx : KnowsX} {ctx cw : List (Option SF)} {mem : List MF} {body suite : List Stmt} {b₀ : Stmt} {pos pos' np : Pos} {n x : Str} {rr : Ra γ}
theorem J1G.tryAs2 (i : Nat) (f g : Str) (df : Pay → Option α) (dg : Pay → Option β) {c0 : Str} {cv : Value} {Ls : List (Str × Bool)} {mb : Res (Fl S L γ)} {G' : S → Knows} {GL : L → Knows} {mh : α → β → Res (Fl S L γ)} {me' : Hp → List MF} (tk : L2N.Takes X W)
    (jb : ∀ (W' : WX) (pn : List (Addr × Obj)) (xe : Value → Shared → Prop) (I1 : Hp), L2N.Takes (X.tr pn xe) W' → PassesOwn (model X.prog X.w) X.A X.env xe → JG (X.tr pn xe) I0 H0 W' (fun I H σ d => Stt I0 H0 cw (me' I1) I H σ ∧ Fr H0 d) (Stt I0 H0 ctx (me' I1)) body mb G' GL rr)
    (js : ∀ (a : Addr) (oe : Obj) (dd : Addr) (pn : List (Addr × Obj)) (p q : Pay) (y : α) (z : β), L2N.Zn (.ref (He.ga X.K c0)) (some dd) oe → (∃ vs, oe.data = .fields vs) → df p = some y → dg q = some z → JG (X.suite a ((a, oe) :: pn)) I0 H0 (fun _ _ _ _ => False) (fun _ _ _ _ => True) (Stt I0 H0 (cw.set i (some ⟨rExc a, ()⟩)) (MF.xd X.K dd [(g, q), (f, p)] :: mem)) (b₀ :: suite) (mh y z) (fun s I H σ => G' s I H (σ.set i none)) (fun s I H σ => GL s I H (σ.set i none)) rr)
    (hcl : ∀ c, (c, true) ∈ Ls → c = c0) (hL : ∀ y b, (y, b) ∈ Ls → PySem.W.exmOne X.K (.ref (He.ga X.K y)) cv = some b) (hc : Names X x cv) (hx : ∀ I H σ d, Stt I0 H0 cw mem I H σ → Fr H0 d → Kx I H σ d) (hN : X.N.Nodup) (hme : ∀ I1, me' I1 = mem ++ [MF.same I1] := by intro _; rfl)
    (hs : X.stack = X.env :: X.outer := by rfl) (hf : X.env.frame = some X.env.locals := by rfl) (hi : X.N[i]? = some n := by rfl) (hln : X.env.kindOf n = some .local := by rfl) (hmx : NoXd mem := by exact True.intro) :
    J1G X I0 H0 W Kx (Stt I0 H0 ctx mem) (.Try body [.ExceptHandler (some (.Name x np)) (some n) (b₀ :: suite) pos'] [] [] pos) (tryG mb Ls (fun ee => pay2 g f dg df mh ee.pay)) G' GL rr := by
  refine J1G.tryAs i tk jb (fun a oe ee d pn hz hf' hm h0 h1 => ?_) hL hc hx hN hme hs hf hi hln hmx
  rw [hcl _ hm] at hz
  obtain ⟨ec, ep⟩ := ee
  dsimp only at h0 h1 ⊢
  match ep, h0, h1 with
  | [], _, _ => exact JG.dead
  | [_], _, _ => exact JG.dead
  | (g', q) :: (f', p) :: [], h0, h1 =>
    unfold pay2
    dsimp only
    by_cases hg : g' = g ∧ f' = f
    · rw [if_pos hg]
      obtain ⟨rfl, rfl⟩ := hg
      cases hd : df p with
      | none => exact JG.dead
      | some y =>
        cases hd2 : dg q with
        | none => exact JG.dead
        | some z =>
          cases d with
          | none => cases h0 rfl
          | some dd => exact js a oe dd pn p q y z hz hf' hd hd2
    · rw [if_neg hg]; exact JG.dead
  | _ :: _ :: _ :: _, _, _ => exact JG.dead
end
section
variable {α δ : Type} {P : Program} {w : World} {K : PySem.W.Frag} {mg : Str → Option Value} {base : Heap} {x qual : Str} {params : Arguments} {body : List Stmt} {scope : Scope} {f : Addr} {fd : FuncData} {N ps : List Str} {k : Nat} {r : Rp α} {R : Hp → Hp → List V → δ → Prop} {m : δ → Res (List α)}
end
end L2.Tr

namespace L2.Tr
open PySem PySem.Spec PyProof.Rows
section
variable {α β γ δ ε S T L : Type} {X : Cx} {I0 H0 I H I1 : Hp} {W : WX} {Kx : KnowsX} {ctx : List (Option SF)} {mem : List MF} {C : T → List MF} {t0 t : T} {kws : List Keyword} {pos pos' p2 : Pos} {n : Str} {rc : Rp γ} {σ : St} {Q : VK} {R' : Hp → Hp → List V → ε → Prop} {me : Res ε} {ks : List Str}
end
end L2.Tr

namespace L2.Tr
open PySem PySem.Spec PyProof.Rows
section
variable {α γ S L : Type} {X : Cx} {I0 H0 I H : Hp} {W : WX} {Kx : KnowsX} {ss : List Stmt} {ctx ctx' : List (Option SF)} {mem mem' : List MF} {rr : Ra γ}
variable (i j : Nat) {r : Rp α} [mo : Mo r] {l : Addr} {xss : List (List α)}
end
end L2.Tr

namespace L2.Tr
open PySem PySem.Spec PyProof.Rows
section
variable {α β γ δ S : Type} {X : Cx} {I0 H0 : Hp} {W : WX} {Kx : KnowsX} {ctx : List (Option SF)} {mem : List MF} {e a b c o elt iter tg : Expr} {ss body : List Stmt} {pos pos' : Pos} {n : Str} {r : Rp α} {rb : Rp β}
end
end L2.Tr

namespace L2.Tr
open PySem PySem.Spec PyProof.Rows
section
variable {α β γ δ S T : Type} {X : Cx} {I0 H0 I H : Hp} {W : WX} {Kx : KnowsX} {ctx : List (Option SF)} {mem : List MF} {C : T → List MF} {t0 : T} {e : Expr} {es : List Expr} {ss : List Stmt} {pos pos' : Pos} {n : Str} {r : Rp α} {rt : Rp β} {σ : St} {Q : VK} {R : Hp → Hp → List V → δ → Prop}
end
section
variable {P : Program} {w : World} {K : PySem.W.Frag} {mg : Str → Option Value} {base : Heap} {N : List Str} {qual : Str} {scope : Scope} {f : Addr} {cd : Value} {A : Around} {outer : List Env} {s : Shared} {H : Hp} {E : XK} {pn : List (Addr × Obj)}
end
end L2.Tr

namespace GQ
open PySem PySem.SeqAt
section
variable {prog : Program} {w : World} {A : Around} {E : Value → Shared → Prop} {s : Shared}
end
end GQ
namespace L2.Tr
open PySem PySem.Spec PyProof.Rows He
section
variable {X : Cx} {W : WX} {n : Nat} {D : Eqv} {k : Nat} {f : Addr} {gb : Rat × Num × Unit → Res Bool}
def sameV (xs ys : List Num) : Prop := xs.map Num.val = ys.map Num.val
instance {xs ys : List Num} : Decidable (sameV xs ys) := by unfold sameV; infer_instance
end
end L2.Tr

namespace L2.Tr
open PySem PySem.Spec PyProof.Rows
section
variable {α β γ δ : Type} {X : Cx} {I0 H0 I H : Hp} {W : WX} {ctx : List (Option SF)} {mem : List MF} {e a b : Expr} {pos : Pos} {r : Rp α} {R : Hp → Hp → List V → δ → Prop} {md : Res δ} {mi : Res Int} {σ : St} {Q : VK}
def rFlt : Rp V := fun _ v x => v = x ∧ flatV x = true
instance : Mo rFlt := ⟨fun _ h => h⟩
end
end L2.Tr

namespace L2.Tr
open PySem PySem.Spec PyProof.Rows L2H
section
variable {α β γ δ S L : Type} {X : Cx} {I0 H0 I H : Hp} {W : WX} {Kx : KnowsX} {ctx : List (Option SF)} {mem : List MF} {e a b c o elt iter : Expr} {pos pos' p2 : Pos} {n : Str} {σ : St} {r : Rp α} {rb : Rp β}
end
section
variable {α β γ δ S L : Type} {X : Cx} {I0 H0 : Hp} {W : WX} {Kx : KnowsX} {ctx cw : List (Option SF)} {mem : List MF} {e a b : Expr} {ss body suite : List Stmt} {b₀ : Stmt} {pos pos' np p1 p3 : Pos} {n x f g : Str} {rr : Ra γ} {r : Rp α} {r2 : Rp β} {G : Knows}
end
end L2.Tr

namespace L2.Tr
open PySem PySem.Spec PyProof.Rows L2H
section
variable {γ δ : Type} {P : Program} {w : World} {K : PySem.W.Frag} {mg : Str → Option Value} {base : Heap} {x qual : Str} {params : Arguments} {body : List Stmt} {scope : Scope} {dvs dvs' : List V} {ds : List Value} {kws : List (Str × V)} {f C : Addr} {fd : FuncData} {N ps : List Str} {k : Nat} {R : Hp → Hp → List V → δ → Prop} {m : δ → Res γ} {r : Ra γ}
end
section
variable {γ δ : Type} {X : Cx} {W : WX} {C f : Addr} {k : Nat} {dvs : List V} {R R' : Hp → Hp → List V → δ → Prop} {m : δ → Res γ} {rc : Ra γ}
end
def MkL {γ δ : Type} (P : Program) (w : World) (K : PySem.W.Frag) (mg : Str → Option Value) (base : Heap) (k : Nat) (C : Addr) (R : Hp → Hp → List V → δ → Prop) (m : δ → Res γ) (r : Ra γ) : Prop :=
  ∀ (X : Cx) (W : WX), X.prog = P → X.w = w → X.K = K → X.mg = mg → X.base = base → RoomH k X.A → HotC X → L2N.Takes X W → CallJ X W (.ref C) R m r
theorem MkL.nice {γ δ : Type} {P : Program} {w : World} {K : PySem.W.Frag} {mg : Str → Option Value} {base : Heap} {k : Nat} {C : Addr} {R : Hp → Hp → List V → δ → Prop} {m m' : δ → Res γ} {r : Ra γ} (F : MkL P w K mg base k C R m r) (h : ∀ d, m' d = .stuck ∨ m' d = m d) : MkL P w K mg base k C R m' r := fun X W e1 e2 e3 e4 e5 hr hp tk I H σ Q vs d s a p => by
  refine F X W e1 e2 e3 e4 e5 hr hp tk I H σ Q vs d s a ?_
  rcases h d with e | e
  · rw [show m' d = _ from e] at p; exact p.elim
  · rw [← e]; exact p
section
variable {γ δ : Type} {X : Cx} {W : WX} {C : Addr} {k : Nat} {R : Hp → Hp → List V → δ → Prop} {m : δ → Res γ} {rc : Ra γ}
end
structure LargeH (X : Cx) : Prop where
  seer : fSeer X.K = true
  tree : X.prog.given.tree = none
  room : RoomH 34 X.A
  top : ∃ e o, X.stack = e :: o ∧ e.scope.isGenerator = false ∧ e.scope.isCoroutine = false ∧ e.builtins = builtinsNs ∧ e.globals = mainGlobals
end L2.Tr

namespace L2.Tr
section
variable {α β γ S L : Type}
end
open PySem PySem.Spec PyProof.Rows L2H
section
variable {α δ : Type} {P : Program} {w : World} {K : PySem.W.Frag} {mg : Str → Option Value} {base : Heap} {x qual : Str} {params : Arguments} {body : List Stmt} {scope : Scope} {dvs dvs' : List V} {ds : List Value} {kws : List (Str × V)} {f C : Addr} {fd : FuncData} {N ps : List Str} {k : Nat} {R : Hp → Hp → List V → δ → Prop} {m : δ → Res α} {gs : α → List (Str × SF)}
end
end L2.Tr

namespace L2.Tr
open PySem PySem.Spec PyProof.Rows L2H
section
variable {α β γ δ S L T : Type} {X : Cx} {I0 H0 : Hp} {W : WX} {Kx : KnowsX} {ctx : List (Option SF)} {mem : List MF} {tg iter : Expr} {body : List Stmt} {pos : Pos} {GL : L → Knows} {rr : Ra γ} {rb : Rp β} {C : T → List MF} {t0 : T}
end
end L2.Tr

namespace L2.Tr
open PySem PySem.Spec PyProof.Rows L2H
end L2.Tr

namespace GQ
open PySem PySem.SeqAt
open AutoSeq1 (wpAny_loadPart')
open MeetsSeq MeetsSeq2 MeetsSeq3 SeqRoads2
section
variable {prog : Program} {w : World} {A : Around} {E : Value → Shared → Prop} {s : Shared}
end
end GQ
namespace L2.Tr
open PySem PySem.Spec PyProof.Rows L2H
def rAny : Rp Unit := fun _ _ _ => True
instance : Mo rAny := ⟨fun _ h => h⟩
end L2.Tr
namespace L2H
end L2H
namespace L2
open PySem PySem.Spec PyProof.Rows
section
variable {X : Cx} {body : List Stmt} {h₀ : ExceptHandler} {hds : List ExceptHandler} {l : List (Value × (Addr → Value → Option Addr → TS))} {pos : Pos} {tb : WX → TS} {Wout : WX}
end
end L2
namespace L2.Tr
open PySem PySem.Spec PyProof.Rows L2H
section
variable {α β γ S S1 L : Type} {X : Cx} {I0 H0 : Hp} {W : WX} {Kx : KnowsX} {ctx cw : List (Option SF)} {mem : List MF} {body suite orelse : List Stmt} {b₀ : Stmt} {h₀ : ExceptHandler} {pos pos' np : Pos} {n x f : Str} {rr : Ra γ} {G' : S → Knows} {GL : L → Knows}
end
end L2.Tr

namespace L2
open PySem PySem.Spec PyProof.Rows
inductive HdsH (X : Cx) : List ExceptHandler → List (Value × (Addr → Value → Option Addr → TS)) → Prop
  | nil : HdsH X [] []
  | only {x : Str} {c : Value} {ts : Addr → Value → Option Addr → TS} {b₀ : Stmt} {suite : List Stmt} {np pos' : Pos} {hds : List ExceptHandler} {l : List (Value × (Addr → Value → Option Addr → TS))} (hc : Names X x c)
      (hsu : ∀ (a : Addr) (oe : Obj) (cls : Value) (d : Option Addr) (pn : List (Addr × Obj)), Zc cls d oe → (∃ vs, oe.data = .fields vs) → PSs (X.suite a ((a, oe) :: pn)) (b₀ :: suite) (ts a cls d)) (r : HdsH X hds l) :
      HdsH X (.ExceptHandler (some (.Name x np)) none (b₀ :: suite) pos' :: hds) ((c, ts) :: l)
section
variable {X : Cx} {body : List Stmt} {h₀ : ExceptHandler} {hds : List ExceptHandler} {l : List (Value × (Addr → Value → Option Addr → TS))} {pos : Pos} {tb : WX → TS} {Wout : WX}
end
end L2
namespace L2.Tr
open PySem PySem.Spec PyProof.Rows L2H He
section
variable {α β γ δ S L : Type} {X : Cx} {I0 H0 : Hp} {W : WX} {Kx : KnowsX} {G : Knows} {ctx cw : List (Option SF)} {mem : List MF} {body suite : List Stmt} {b₀ : Stmt} {pos pos' np : Pos} {n x : Str} {rr : Ra γ}
end
section
variable {α β γ δ S L : Type} {P : Program} {w : World} {K : PySem.W.Frag} {mg : Str → Option Value} {base : Heap} {x qual : Str} {params : Arguments} {body : List Stmt} {scope : Scope} {f : Addr} {fd : FuncData} {N ps : List Str} {k : Nat} {r : Ra γ} {R : Hp → Hp → List V → δ → Prop} {m : δ → Res γ}
end
section
variable {α β γ δ S : Type} {X : Cx} {I0 H0 : Hp} {W : WX} {Kx : KnowsX} {ctx : List (Option SF)} {mem : List MF} {f' : Addr} {k : Nat} {rc : Ra γ} {R : Hp → Hp → List V → δ → Prop} {m : δ → Res γ} {e : Expr} {pos p1 p3 : Pos} {ss : List Stmt} {x f : Str} {r : Rp α} {G : Knows} {rr : Ra γ}
end
section
variable {α β γ δ : Type} {X : Cx} {W : WX} {f f' : Addr} {k : Nat} {rc : Ra γ} {g : Rat × Num × Unit → Res γ}
end

section
variable {α β γ δ : Type} {X : Cx} {I0 H0 : Hp} {W : WX} {Kx : KnowsX} {ctx : List (Option SF)} {mem : List MF} {a b : Expr} {ma : Res α} {mb : Res β} {pos : Pos}
end
section
variable {α : Type} {x : Rat} {y : Num} {n : Int} {e : Exn}
end
end L2.Tr

namespace L2.Tr
open PySem PySem.Spec PyProof.Rows
section
variable {α β γ δ S T : Type} {X : Cx} {I0 H0 I H : Hp} {W : WX} {Kx : KnowsX} {ctx : List (Option SF)} {mem : List MF} {C : T → List MF} {t0 : T} {e : Expr} {es : List Expr} {ss : List Stmt} {pos pos' : Pos} {n : Str} {r : Rp α} {rt : Rp β} {σ : St} {Q : VK} {R : Hp → Hp → List V → δ → Prop}
end
end L2.Tr

namespace L2.Tr
open PySem PySem.Spec PyProof.Rows
section
variable {α β γ δ S T : Type} {X : Cx} {I0 H0 I H : Hp} {W : WX} {Kx : KnowsX} {ctx : List (Option SF)} {mem : List MF} {C : T → List MF} {t0 : T} {e : Expr} {es : List Expr} {ss : List Stmt} {pos pos' : Pos} {n : Str} {σ : St} {Q : VK} {R : Hp → Hp → List V → δ → Prop}
end
end L2.Tr

namespace L2.Tr
open PySem PySem.Spec PyProof.Rows
section
variable {α β γ δ S L : Type} {X : Cx} {I0 H0 : Hp} {W : WX} {Kx : KnowsX} {ctx : List (Option SF)} {mem : List MF} {e a : Expr} {ss : List Stmt} {pos : Pos} {rr : Ra γ} {r : Rp α} {q : Rp β}
def rUn (r : Rp α) (q : Rp β) : Rp (α ⊕ β) := fun I v x => match x with
  | .inl y => r I v y
  | .inr y => q I v y
instance {r : Rp α} {q : Rp β} [m : Mo r] [n : Mo q] : Mo (rUn r q) := ⟨fun {I I' v x} s h => by
  cases x with
  | inl y => exact m.up s h
  | inr y => exact n.up s h⟩
instance {r : Rp α} {q : Rp β} [m : NoN r] [n : NoN q] : NoN (rUn r q) := ⟨fun I v x h => by
  cases x with
  | inl y => exact m.ne I v y h
  | inr y => exact n.ne I v y h⟩
end
end L2.Tr

namespace L2.Tr
open PySem PySem.Spec PyProof.Rows He
section
variable {α β γ δ S L : Type} {X : Cx} {I0 H0 I H I1 H1 : Hp} {W : WX} {Kx : KnowsX} {ctx : List (Option SF)} {mem : List MF} {e a b c o elt iter ix ix2 : Expr} {pos pos' p2 : Pos} {n : Str} {σ : St} {r : Rp α} {rb : Rp β} {rr : Ra γ} {ss : List Stmt}
end
end L2.Tr

namespace L2.Tr
open PySem PySem.Spec PyProof.Rows
section
variable {α γ : Type} {P : Program} {w : World} {K : PySem.W.Frag} {mg : Str → Option Value} {base : Heap} {k : Nat} {f : Addr} {x qual : Str} {params : Arguments} {body : List Stmt} {scope : Scope} {fd : FuncData} {N : List Str} {pv : Str} {r : Rp α} {m : List α → Res γ} {rc : Ra γ}
end
section
variable {α : Type} {P : Program} {w : World} {K : PySem.W.Frag} {mg : Str → Option Value} {base : Heap} {k : Nat} {f : Addr} {x qual : Str} {params : Arguments} {body : List Stmt} {scope : Scope} {fd : FuncData} {N : List Str} {pv : Str} {r : Rp α} {m : List α → Res Unit}
end
section
variable {α γ δ : Type} {X : Cx} {I0 H0 H : Hp} {σ : St} {W : WX} {ctx : List (Option SF)} {mem : List MF} {e : Expr} {pos pos' sp : Pos} {n : Str} {r : Rp α} {rc : Ra γ} {g : List α → Res γ} {Q : VK}
end
end L2.Tr

namespace L2.Tr
open PySem PySem.Spec PyProof.Rows
section
variable {α β1 β2 γ : Type} {X : Cx} {I0 H0 : Hp} {W : WX} {ctx : List (Option SF)} {mem : List MF} {elt iter : Expr} {pos pos1 pos2 pt : Pos} {n1 n2 : Str} {r : Rp α} {r1 : Rp β1} {r2 : Rp β2} {kt : Nat}
end
end L2.Tr

namespace L2.Tr
open PySem PySem.Spec PyProof.Rows He
section
variable {α β γ δ S L : Type} {X : Cx} {I0 H0 I H I1 H1 : Hp} {W : WX} {Kx : KnowsX} {G : Knows} {ctx : List (Option SF)} {mem : List MF} {e a b c o elt iter ix ix2 : Expr} {es : List Expr} {pos pos' p2 : Pos} {n : Str} {σ : St} {Q : VK} {r : Rp α} {rb : Rp β} {rr : Ra γ} {md : Res δ} {R : Hp → Hp → List V → δ → Prop} {ss : List Stmt}
def rIdx (ls : List Addr) : Rp Nat := fun _ v q => ∃ a, ls[q]? = some a ∧ v = V.ref a
instance {ls : List Addr} : Mo (rIdx ls) := ⟨fun _ h => h⟩
section
variable {G G' : Knows} {cw : List (Option SF)} {tg : Expr} {body s1 s2 : List Stmt} {GL : L → Knows} {ra : Ra α} {ma : Res α} {mc : Res Bool}
end
instance {δ : Type} {R : Hp → Hp → List V → δ → Prop} [l : DpL R] : DpC (rLu R) where
  deq := l.deq
  enc := fun x => .list (l.enc x)
  lay := l.lay
  dep := l.dep + 1
  dp := fun s ⟨a, vs, e, h, p⟩ => by rw [e]; exact .lst (SqL.of (s _ _ h)) (l.dp s p)
  eq := fun x y => by show PyData.eqvAll _ _ = _; exact l.eq x y
  cl := fun x h => by simp only [PyData.canLay0]; exact l.cl x h
  dd := fun x => by simp only [PyData.depth]; have := l.dd x; omega
instance {R : Hp → Hp → List V → δ → Prop} : NoN (rLu R) := ⟨fun _ _ _ ⟨_, _, e, _⟩ z => by rw [e] at z; cases z⟩
end
end L2.Tr

namespace L2.Tr
open PySem PySem.Spec PyProof.Rows He
section
variable {α : Type} {X : Cx} {I0 H0 I H : Hp} {W : WX} {ctx : List (Option SF)} {mem : List MF} {a es : Expr} {pos p3 : Pos} {r : Rp α}
end
section
variable {α β ζ : Type} {X : Cx} {I0 H0 I H : Hp} {W : WX} {Kx : KnowsX} {ctx : List (Option SF)} {mem : List MF} {pos pos' : Pos} {n : Str} {σ : St} {Q : VK} {r : Rp α}
end
end L2.Tr

namespace L2.Tr
open PySem PySem.Spec PyProof.Rows He
section
variable {α β γ δ S L : Type} {X : Cx} {I0 H0 I H I1 H1 : Hp} {W : WX} {Kx : KnowsX} {ctx : List (Option SF)} {mem : List MF} {e a b c o elt iter ix ix2 : Expr} {pos pos' p2 : Pos} {n : Str} {σ : St} {r : Rp α} {rb : Rp β} {rr : Ra γ} {ss : List Stmt}
end
end L2.Tr

namespace GQ
open PySem PySem.SeqAt
open AutoSeq1 (wpAny_loadPart')
open MeetsSeq MeetsSeq2 MeetsSeq3 SeqRoads2
section
variable {prog : Program} {w : World} {A : Around} {E : Value → Shared → Prop} {s : Shared}
end
end GQ
namespace L2.Tr
open PySem PySem.Spec PyProof.Rows He L2H
section
variable {α β : Type} {X : Cx} {W : WX} {r : Rp α} {r2 : Rp β} {k : Nat}
end
section
variable {α β γ δ S L : Type} {X : Cx} {I0 H0 I H : Hp} {W : WX} {Kx : KnowsX} {ctx : List (Option SF)} {mem : List MF} {e a b c o elt iter : Expr} {pos pos' p2 : Pos} {n : Str} {σ : St} {r : Rp α} {rb : Rp β}
def rTb (r : Rp α) : Ra (List (List α)) := fun I H v xss => ∃ l ls, v = .ref l ∧ H l = some (.lst (ls.map V.ref)) ∧ RowsR I H r ls xss
theorem RowsR.upS [mo : Mo r] {I I' H H' : Hp} (s : Same I I') (s2 : Same H H') : ∀ {ls : List Addr} {xss : List (List α)}, RowsR I H r ls xss → RowsR I' H' r ls xss
  | [], [], h => h
  | a :: ls, xs :: xss, ⟨⟨vs, h1, h2⟩, h3⟩ => ⟨⟨vs, s2 _ _ h1, Paired.mapP h2 fun _ _ q => mo.up s q⟩, RowsR.upS s s2 h3⟩
  | [], _ :: _, h => h.elim
  | _ :: _, [], h => h.elim
instance [mo : Mo r] : MoA (rTb r) := ⟨fun s s2 ⟨l, ls, e, h, rows⟩ => ⟨l, ls, e, s2 _ _ h, rows.upS s s2⟩⟩
end
section
variable {α β γ δ S T : Type} {X : Cx} {I0 H0 I H : Hp} {W : WX} {Kx : KnowsX} {ctx : List (Option SF)} {mem : List MF} {C : T → List MF} {t0 : T} {a e : Expr} {pos pos' p2 : Pos} {n : Str} {r : Rp α} {σ : St} {Q : VK}
end
section
variable {α β γ δ ε : Type} {X : Cx} {I0 H0 : Hp} {W : WX} {ctx : List (Option SF)} {mem : List MF} {e a b c o : Expr} {es bs : List Expr} {kws : List Keyword} {pos pos' kpos : Pos} {n x : Str} {nm : Option Str} {r : Rp α}
variable {R : Hp → Hp → List V → δ → Prop} {R' : Hp → Hp → List V → ε → Prop} {md : Res δ} {me : Res ε} {g : δ → ε → Res (List (List α))} {ks : List Str}
end
section
variable {α β γ δ S T : Type} {X : Cx} {I0 H0 I H H1 : Hp} {W : WX} {Kx : KnowsX} {ctx : List (Option SF)} {mem : List MF} {a e : Expr} {es : List Expr} {pos pos' p2 : Pos} {n : Str} {r : Rp α} {rc : Rp γ} {σ : St} {Q : VK} {R : Hp → Hp → List V → δ → Prop}
def rdA (l : Addr) (r : Rp α) : Ra (List α) := fun I H v xs => ∃ vs, v = .ref l ∧ H l = some (.lst vs) ∧ Paired (r I) vs xs
instance {l : Addr} [mo : Mo r] : MoA (rdA l r) := ⟨fun s t ⟨vs, e, h, p⟩ => ⟨vs, e, t _ _ h, Paired.mapP p fun _ _ q => mo.up s q⟩⟩
end
end L2.Tr

set_option maxHeartbeats 2000000
namespace L2.Tr
open PySem PySem.Spec PyProof.Rows L2H HotX
section
variable {prog : Program} {w : World} {A : Around} {E : Value → Shared → Prop} {s : Shared}
end
section
variable {X : Cx} {W : WX}
end
end L2.Tr

namespace L2.Tr
open PySem PySem.Spec PyProof.Rows He
section
variable {α β γ δ S L : Type} {X : Cx} {I0 H0 I H I1 H1 : Hp} {W : WX} {Kx : KnowsX} {ctx : List (Option SF)} {mem : List MF} {e a b c o elt iter ix ix2 : Expr} {pos pos' p2 : Pos} {n : Str} {σ : St} {r : Rp α} {rb : Rp β} {rr : Ra γ} {ss : List Stmt}
end
end L2.Tr

namespace L2.Tr
open PySem PySem.Spec PyProof.Rows He
theorem pe_exc0 {X : Cx} {C : Addr} {bmB : List Value} {B newId initId : String} {x : Str} {p pos : Pos} (F : ExcBaseFacts B newId initId bmB) (q : PySem.W.excIn X.K C bmB newId = true) (gC : X.mg x = some (.ref C)) (kC : PySem.W.keepIn X.K (.ref C) = true) (hg : Gl X x)
    (hdb : (x == ("__debug__" : Str)) = false := by decide) :
    PE X (.Call (.Name x p) [] [] pos) (fun σ H Q => ∀ a, H a = none → Q (.ref a) (upd H a (ExO (.ref C) a))) := by
  refine ⟨fun pins s σ H Q I h => ?_⟩
  refine wpAny_Call_Name_kw (ld_glob I hg gC ?_ hdb)
  refine PySem.W.callWith_K0 I.kIn kC ?_
  show wpAny _ _ (call (.ref C) []) _ _ _
  obtain ⟨bm, N, nm, qn, bs, hdct, sn, sub, ab, col, dd, k0, k1, k2, k3, k5, mN, hC, hN, hni, T⟩ := exc_obj I.kIn q
  refine wpAny_call_exc_subT F T hC hN hni (fun h' a hm => ?_) (by show 0 ≤ sizeLine; omega)
  have hn : H a = none := I.hok.gone hm.new
  obtain ⟨t, ht, _, _⟩ := hm.there
  exact ⟨.ref a, upd H a (ExO (.ref C) a), I.laidN hm.keeps hm.new hn (exO_ok ht ⟨rfl, rfl⟩ rfl rfl rfl (show 4 < 6 by decide)), rfl, h a hn⟩
theorem pe_oexV {X : Cx} {e : Expr} {es : List Expr} {ta : TA} {p pos : Pos} {CX : CXT} {x : Str} {C fI : Addr} {k : Nat} {fd : FuncData} {ps : List Str} {sp : Sp} (T : OexC X.K C) (iC : PySem.W.findIn X.K (.ref C) "__init__" = some (some (.ref fI))) (tI : PySem.W.typeIn X.K (.ref fI) = some (.type "function"))
    (F1 : FnOk X.prog X.w X.K X.mg X.base CX k fI fd ps sp) (hr : Room (k + 1) X.A) (hb : Binds X.K fd ps []) (hx : Passes CX X (fun _ _ _ => False)) (hg : Gl X x) (hm : X.mg x = some (.ref C)) (ha : PA X (e :: es) ta)
    (hdb : (x == ("__debug__" : Str)) = false := by decide) (he : starEach (e :: es) X.env = (false, eval e X.env) :: starEach es X.env := by rfl) (hpl : (backTo pos (starEach es X.env)).any (·.1) = false := by rfl) :
    PE X (.Call (.Name x p) (e :: es) [] pos) (fun σ H Q => ta σ H fun vs H1 => vs.length ≤ 1000 ∧ ∀ a, H1 a = none → sp (.ref a :: vs) (upd H1 a (exo a C none)) (fun v H2 => v = .non ∧ Q (.ref a) H2) (fun _ _ _ => False)) := by
  refine ⟨fun pins s σ H Q I h => ?_⟩
  obtain ⟨nm, q, N, bs, bm, sn, sub, ab, col, dd, k0, k1, k2, k3, k5, hC, hbm⟩ := T.cls
  refine wpAny_Call_Name_kw (ld_glob I hg hm ?_ hdb)
  refine PySem.W.callWith_K (h₀ := X.base) I.ok.mod.kin T.kC (thn (ha.run pos pins s σ H _ I h) fun us s1 ⟨vs, H1, I1, r1, hz, q1⟩ => ⟨I1.kIn, ?_⟩) he hpl
  show wpAny _ _ (call (.ref C) us) _ _ _
  obtain ⟨hp, g, dr, tk, os⟩ := s1
  have hq := q1 (hp.objs.size + 1) (I1.hok.fresh (Nat.le_succ _))
  have kk : ∀ b o, hp.get? b = some o → ((hp.push (PySem.W.kdv_tup us)).push (PySem.HandSPX.excO C hp.objs.size)).get? b = some o := fun b o e => Heap.get?_push_of_some _ (Heap.get?_push_of_some _ e)
  have hget : ((hp.push (PySem.W.kdv_tup us)).push (PySem.HandSPX.excO C hp.objs.size)).get? (hp.objs.size + 1) = some (PySem.HandSPX.excO C hp.objs.size) := by heap_get
  have I2 : Inv X pins σ (upd H1 (hp.objs.size + 1) (exo (hp.objs.size + 1) C none)) ⟨(hp.push (PySem.W.kdv_tup us)).push (PySem.HandSPX.excO C hp.objs.size), g, dr, tk, os⟩ :=
    I1.laid (t' := tk) (a := hp.objs.size + 1) (o := exo (hp.objs.size + 1) C none) (h' := (hp.push (PySem.W.kdv_tup us)).push (PySem.HandSPX.excO C hp.objs.size)) kk (Nat.le_succ _) (exo_ok hget)
  have r2 : Vals (V.ref (hp.objs.size + 1) :: vs) (Value.ref (hp.objs.size + 1) :: us) := .cons rfl r1
  have hl : (Value.ref (hp.objs.size + 1) :: us ++ []).length = ps.length := by
    have e := r2.length
    rw [F1.len _ _ _ _ hq] at e
    rw [List.append_nil]
    exact e.symm
  have hus : us.length ≤ sizeLine := by
    rw [← Paired.length r1, sizeLine_eq]
    omega
  have bnd := hb ⟨(hp.push (PySem.W.kdv_tup us)).push (PySem.HandSPX.excO C hp.objs.size), g, dr, tk, os⟩ (Value.ref (hp.objs.size + 1) :: us) I2.kIn hl
  rw [List.append_nil] at bnd
  refine wpAny_call (PySem.HandSPX.call_own F.excBase_ValueError (fun Y => PySem.HandSPX.refsVE_contains Y bm hbm) (I1.kIn _ _ hC) (PySem.W.looks_findIn I1.kIn iC) (fun self => PySem.W.bind_fn I1.kIn self tI) hus
    (codeAny_mono (F1.run _ X.stack _ _ ⟨Value.ref (hp.objs.size + 1) :: us, []⟩ (Value.ref (hp.objs.size + 1) :: us) _ _ (fun _ _ _ => False) (hr.make C us []) (I2.env0.make C us []) bnd r2 hq) fun r s' hq' => ?_))
  cases r with
  | error er => exact hx pins σ _ _ er s' I2 hq'
  | ok fl =>
    cases fl with
    | ret u =>
      obtain ⟨v, H2, I3, rv, ev, q2⟩ := I2.after hq'
      subst ev
      refine ⟨rv, ?_⟩
      exact ⟨.ref (hp.objs.size + 1), H2, I3, rfl, q2⟩
    | next => exact False.elim hq'
    | brk => exact False.elim hq'
    | cont => exact False.elim hq'
theorem pe_xfV {X : Cx} {C : Addr} {e : Expr} {te : TE} {pos : Pos} {n : Str} (T : XfC X.K C) (hno : PySem.W.findIn X.K (.ref C) n = some none) (he : PE X e te) (hb : attributeBase e n X.env (eval e X.env) = eval e X.env := by rfl) :
    PE X (.Attribute e n pos) (fun σ H Q => te σ H fun x H1 => ∃ (a dd : Addr) (fs : List (Str × V)) (v : V), x = .ref a ∧ H1 a = some (exo a C (some dd)) ∧ H1 dd = some (exd dd fs) ∧ fs.lookup n = some v ∧ Q v H1) := by
  refine ⟨fun pins s σ H Q I h => ?_⟩
  refine attr_of hb (thn (he.run pins s σ H _ I h) fun u s1 hh => ?_)
  obtain ⟨x, H1, I1, rx, a, dd, fs, v, ex, ea, ed, l, q⟩ := hh
  subst ex
  obtain rfl : u = Value.ref a := rx
  obtain ⟨t1, ho⟩ := exo_at I1.hok ea
  obtain ⟨mA, hns, hr⟩ := exd_at I1.hok ed
  obtain ⟨od, hd, hl⟩ := lookIn_ns hns
  obtain ⟨u, hu, ru⟩ := RelO.some_of (v := v) (o := mA n) (by rw [← l]; exact hr n)
  have J : PySem.W.InstAt s1.heap a { cls := .ref C, dict := some dd, data := .fields #[.ref t1, .none, .none, .none, .bool false, .none] } C (some od) := ⟨ho, rfl, rfl, hd⟩
  exact HandSPX.exc_get I1.kIn J T.ga T.gg T.exC (PySem.W.findObj_own T.hdC hno rfl (by rw [hl, hu])) (handed_of ru) ⟨v, H1, I1.tok _, ru, q⟩
def rEr0 (K : PySem.W.Frag) (c : Str) : Rp Unit := fun I v _ => ∃ a, v = .ref a ∧ I a = some (ExO (.ref (ga K c)) a)
def rEr1 {α : Type} (K : PySem.W.Frag) (c f : Str) (r : Rp α) : Rp α := fun I v y => ∃ a dx u, v = .ref a ∧ I a = some (exo a (ga K c) (some dx)) ∧ I dx = some (exd dx [(f, u)]) ∧ r I u y
def rEr2 {α β : Type} (K : PySem.W.Frag) (c f g : Str) (r : Rp α) (rb : Rp β) : Rp (α × β) := fun I v y => ∃ a dx u z, v = .ref a ∧ I a = some (exo a (ga K c) (some dx)) ∧ I dx = some (exd dx [(g, z), (f, u)]) ∧ r I u y.1 ∧ rb I z y.2
def rErr (K : PySem.W.Frag) (ns : List Str) : Rp Str := fun I v x => x ∈ ns ∧ ∃ a, v = .ref a ∧ (I a = some (ExO (.ref (ga K x)) a) ∨ ∃ dx fs, I a = some (exo a (ga K x) (some dx)) ∧ I dx = some (exd dx fs))
instance {K : PySem.W.Frag} {c : Str} : Mo (rEr0 K c) := ⟨fun s ⟨a, e, h⟩ => ⟨a, e, s _ _ h⟩⟩
instance {α : Type} {K : PySem.W.Frag} {c f : Str} {r : Rp α} [mo : Mo r] : Mo (rEr1 K c f r) := ⟨fun s ⟨a, dx, u, e, h, h2, h3⟩ => ⟨a, dx, u, e, s _ _ h, s _ _ h2, mo.up s h3⟩⟩
instance {α β : Type} {K : PySem.W.Frag} {c f g : Str} {r : Rp α} {rb : Rp β} [mo : Mo r] [mb : Mo rb] : Mo (rEr2 K c f g r rb) := ⟨fun s ⟨a, dx, u, z, e, h, h2, h3, h4⟩ => ⟨a, dx, u, z, e, s _ _ h, s _ _ h2, mo.up s h3, mb.up s h4⟩⟩
instance {K : PySem.W.Frag} {ns : List Str} : Mo (rErr K ns) := ⟨fun s ⟨hm, a, e, h⟩ => ⟨hm, a, e, h.elim (fun h => .inl (s _ _ h)) fun ⟨dx, fs, h1, h2⟩ => .inr ⟨dx, fs, s _ _ h1, s _ _ h2⟩⟩⟩
section
variable {α β γ δ S L : Type} {X : Cx} {I0 H0 I H : Hp} {W : WX} {ctx : List (Option SF)} {mem : List MF} {e a b : Expr} {pos pos' p p1 p3 : Pos} {n x f g c : Str} {r : Rp α} {rb : Rp β} {ns : List Str}
theorem fm_two {I H : Hp} {a dx : Addr} {o u o0 : HO} (s : Same I H) (ha : H a = none) (hd : H dx = none) (ne : dx ≠ a) : Fm I H (upd (upd I dx u) a o) (upd (upd (upd H a o0) dx u) a o) := by
  have nI : ∀ b, H b = none → I b = none := fun b h => by
    cases z : I b with
    | none => rfl
    | some q => rw [s _ _ z] at h; cases h
  refine ⟨fun b q z => ?_, fun b q z => ?_, fun b q z => ?_, fun b z1 z2 => ?_⟩
  · rw [upd_ne (ne_of_none z (nI a ha)), upd_ne (ne_of_none z (nI dx hd))]; exact z
  · rw [upd_ne (ne_of_none z ha), upd_ne (ne_of_none z hd), upd_ne (ne_of_none z ha)]; exact z
  · by_cases h1 : b = a
    · subst h1; rw [upd_same] at z ⊢; exact z
    · rw [upd_ne h1] at z ⊢
      by_cases h2 : b = dx
      · subst h2; rw [upd_same] at z ⊢; exact z
      · rw [upd_ne h2] at z ⊢
        rw [upd_ne h1]
        exact s _ _ z
  · have h1 : b ≠ a := fun y => z2 (by rw [y]; exact ha)
    have h2 : b ≠ dx := fun y => z2 (by rw [y]; exact hd)
    rw [upd_ne h1, upd_ne h2]; exact z1
theorem JE.err0 (ep : ExcP X.K X.mg x) (hg : Gl X x := by rfl) (hdb : (x == ("__debug__" : Str)) = false := by decide) : JE X I0 H0 W ctx mem (.Call (.Name x p) [] [] pos) (.ok ()) (rp (rEr0 X.K x)) := fun I H σ Q st q =>
  PE.w (pe_exc0 PySem.F.excBase_ValueError ep.ex ep.gl ep.kp hg hdb) fun a ha => q _ _ _ (Fm.new st.same ha) ⟨a, rfl, upd_same⟩
theorem JE.err1 {m : Res α} [mo : Mo r] (er : ErR1 X.prog X.w X.K X.mg X.base x f) (hr : Room 2 X.A) (je : JE X I0 H0 W ctx mem e m (rp r)) (hg : Gl X x := by rfl) (hdb : (x == ("__debug__" : Str)) = false := by decide) (hs : starEach [e] X.env = (false, eval e X.env) :: starEach [] X.env := by rfl) (hpl : (backTo p3 (starEach [] X.env)).any (·.1) = false := by rfl) :
    JE X I0 H0 W ctx mem (.Call (.Name x p1) [e] [] p3) m (rp (rEr1 X.K x f r)) := fun I H σ Q st q => by
  obtain ⟨ev, fd, ps, F1, hb⟩ := er
  refine PE.w (pe_oexV ev.oex ev.ini ev.tyI F1 hr hb passNo hg ev.gl pa_W hdb hs hpl) (Tr.w_cons (je I H σ _ st ?_) hs)
  cases m with
  | ok y =>
    intro I1 H1 v f1 r1
    refine w_nil ⟨by simp, fun a ha => ⟨a, v, rfl, upd_same, fun dx h1 h2 => ⟨rfl, ?_⟩⟩⟩
    rw [upd_ne h2] at h1
    refine q _ _ _ (f1.trans (fm_two f1.ih ha h1 h2)) ⟨a, dx, v, rfl, upd_same, by rw [upd_ne h2, upd_same], ?_⟩
    exact mo.up (fm_two (o := exo a (ga X.K x) (Option.some dx)) (u := exd dx [(f, v)]) (o0 := exo a (ga X.K x) Option.none) f1.ih ha h1 h2).i r1
  | err e => exact q
  | stuck => exact q
theorem JE.err2 {m : Res α} {m2 : Res β} [mo : Mo r] [mb : Mo rb] (er : ErR2 X.prog X.w X.K X.mg X.base x f g) (hr : Room 2 X.A) (je : JE X I0 H0 W ctx mem e m (rp r)) (jb : JE X I0 H0 W ctx mem b m2 (rp rb)) (hg : Gl X x := by rfl) (hdb : (x == ("__debug__" : Str)) = false := by decide) (hs : starEach [e, b] X.env = (false, eval e X.env) :: starEach [b] X.env := by rfl) (hs2 : starEach [b] X.env = (false, eval b X.env) :: starEach [] X.env := by rfl) (hpl : (backTo p3 (starEach [b] X.env)).any (·.1) = false := by rfl) :
    JE X I0 H0 W ctx mem (.Call (.Name x p1) [e, b] [] p3) (m.bind fun y => m2.bind fun z => .ok (y, z)) (rp (rEr2 X.K x f g r rb)) := fun I H σ Q st q => by
  obtain ⟨ev, fd, ps, F1, hb⟩ := er
  refine PE.w (pe_oexV ev.oex ev.ini ev.tyI F1 hr hb passNo hg ev.gl pa_W hdb hs hpl) (Tr.w_cons (je I H σ _ st ?_) hs)
  cases m with
  | ok y =>
    intro I1 H1 v f1 r1
    refine Tr.w_cons (jb I1 H1 σ _ (st.step f1) ?_) hs2
    have q' : PostE X.K (m2.bind fun z => .ok (y, z)) (rp (rEr2 X.K x f g r rb)) I H (fun cls d H' => W cls d σ H') Q := q
    cases m2 with
    | ok z =>
      intro I2 H2 u f2 r2
      refine w_nil ⟨by simp, fun a ha => ⟨a, v, u, rfl, upd_same, fun dx h1 h2 => ⟨rfl, ?_⟩⟩⟩
      rw [upd_ne h2] at h1
      have e1 : upd (upd (upd (upd H2 a (exo a (ga X.K x) Option.none)) dx (exd dx [(f, v)])) a (exo a (ga X.K x) (Option.some dx))) dx (exd dx [(g, u), (f, v)]) = upd (upd (upd H2 a (exo a (ga X.K x) Option.none)) dx (exd dx [(g, u), (f, v)])) a (exo a (ga X.K x) (Option.some dx)) := funext fun k => by
        by_cases k1 : k = dx
        · subst k1; rw [upd_same, upd_ne h2, upd_same]
        · rw [upd_ne k1]
          by_cases k2 : k = a
          · subst k2; rw [upd_same, upd_same]
          · rw [upd_ne k2, upd_ne k1, upd_ne k2, upd_ne k2, upd_ne k1, upd_ne k2]
      rw [e1]
      have ff := fm_two (o := exo a (ga X.K x) (Option.some dx)) (u := exd dx [(g, u), (f, v)]) (o0 := exo a (ga X.K x) Option.none) f2.ih ha h1 h2
      refine q' _ _ _ ((f1.trans f2).trans ff) ⟨a, dx, v, u, rfl, upd_same, by rw [upd_ne h2, upd_same], mo.up ff.i (mo.up f2.i r1), mb.up ff.i r2⟩
    | err e => exact PostE.up q' f1
    | stuck => exact q'
  | err e => exact q
  | stuck => exact q
theorem JE.erF1 {m : Res α} (xf : XfC X.K (ga X.K c)) (hno : PySem.W.findIn X.K (.ref (ga X.K c)) f = Option.some Option.none) (je : JE X I0 H0 W ctx mem a m (rp (rEr1 X.K c f r))) (hab : attributeBase a f X.env (eval a X.env) = eval a X.env := by rfl) : JE X I0 H0 W ctx mem (.Attribute a f pos) m (rp r) := fun I H σ Q st q => by
  refine PE.w (pe_xfV xf hno pe_W hab) (je I H σ _ st ?_)
  cases m with
  | ok y =>
    rintro I1 H1 v f1 ⟨a, dx, u, e, h1, h2, h3⟩
    exact ⟨a, dx, [(f, u)], u, e, f1.ih _ _ h1, f1.ih _ _ h2, by simp [List.lookup], q _ _ _ f1 h3⟩
  | err e => exact q
  | stuck => exact q
theorem JE.erF2a {m : Res (α × β)} (xf : XfC X.K (ga X.K c)) (hno : PySem.W.findIn X.K (.ref (ga X.K c)) f = Option.some Option.none) (je : JE X I0 H0 W ctx mem a m (rp (rEr2 X.K c f g r rb))) (hfg : (f == g) = false := by decide) (hab : attributeBase a f X.env (eval a X.env) = eval a X.env := by rfl) : JE X I0 H0 W ctx mem (.Attribute a f pos) (m.bind fun d => .ok d.1) (rp r) := fun I H σ Q st q => by
  refine PE.w (pe_xfV xf hno pe_W hab) (je I H σ _ st ?_)
  cases m with
  | ok y =>
    rintro I1 H1 v f1 ⟨a, dx, u, z, e, h1, h2, h3, h4⟩
    exact ⟨a, dx, [(g, z), (f, u)], u, e, f1.ih _ _ h1, f1.ih _ _ h2, by simp [List.lookup, hfg], q _ _ _ f1 h3⟩
  | err e => exact q
  | stuck => exact q
theorem JE.erF2b {m : Res (α × β)} (xf : XfC X.K (ga X.K c)) (hno : PySem.W.findIn X.K (.ref (ga X.K c)) g = Option.some Option.none) (je : JE X I0 H0 W ctx mem a m (rp (rEr2 X.K c f g r rb))) (hab : attributeBase a g X.env (eval a X.env) = eval a X.env := by rfl) : JE X I0 H0 W ctx mem (.Attribute a g pos) (m.bind fun d => .ok d.2) (rp rb) := fun I H σ Q st q => by
  refine PE.w (pe_xfV xf hno pe_W hab) (je I H σ _ st ?_)
  cases m with
  | ok y =>
    rintro I1 H1 v f1 ⟨a, dx, u, z, e, h1, h2, h3, h4⟩
    exact ⟨a, dx, [(g, z), (f, u)], z, e, f1.ih _ _ h1, f1.ih _ _ h2, by simp [List.lookup], q _ _ _ f1 h4⟩
  | err e => exact q
  | stuck => exact q
theorem JE.toErr {m : Res α} {ra : Rp α} (je : JE X I0 H0 W ctx mem a m (rp ra)) (c : Str) (hc : c ∈ ns) (k : ∀ I v y, ra I v y → rErr X.K [c] I v c) : JE X I0 H0 W ctx mem a (m.bind fun _ => .ok c) (rp (rErr X.K ns)) := fun I H σ Q st q => by
  refine je I H σ _ st ?_
  cases m with
  | ok y => exact fun I1 H1 v f1 r1 => q _ _ _ f1 ⟨hc, (k _ _ _ r1).2⟩
  | err e => exact q
  | stuck => exact q
theorem er0_any {K : PySem.W.Frag} : ∀ I v y, rEr0 K c I v y → rErr K [c] I v c := fun _ _ _ ⟨a, e, h⟩ => ⟨List.mem_cons_self, a, e, .inl h⟩
theorem er1_any {K : PySem.W.Frag} : ∀ I v y, rEr1 K c f r I v y → rErr K [c] I v c := fun _ _ _ ⟨a, dx, u, e, h, h2, _⟩ => ⟨List.mem_cons_self, a, e, .inr ⟨dx, _, h, h2⟩⟩
theorem er2_any {K : PySem.W.Frag} : ∀ I v y, rEr2 K c f g r rb I v y → rErr K [c] I v c := fun _ _ _ ⟨a, dx, u, z, e, h, h2, _, _⟩ => ⟨List.mem_cons_self, a, e, .inr ⟨dx, _, h, h2⟩⟩
def rIsT (K : PySem.W.Frag) (D ad : Addr) : List V → Hp → VK → Prop := fun xs H Q => ∃ (c : V) (u : Value) (t : Bool), xs = [.ref ad, c] ∧ (∀ v, RelV c v → v = u) ∧ PySem.W.kitOne K (.ref D) u = some t ∧ (H ad = some (ExO (.ref D) ad) ∨ ∃ dx fs, H ad = some (exo ad D (some dx)) ∧ H dx = some (exd dx fs)) ∧ Q (.bl t) H
theorem call_isT {ad D : Addr} (C : ExcC X.K D) : CallR X (.builtin "isinstance") (rIsT X.K D ad) := by
  rintro pins s σ H xs us Q I r ⟨c, u, t, rfl, hu, hk, hd, q⟩
  cases r with | cons rx rr =>
  cases rr with | cons rt rr =>
  cases rr
  cases rx
  obtain rfl := hu _ rt
  have hcl : (PySem.W.clsIn X.K D).isSome = true := by obtain ⟨cd, h1, _⟩ := PySem.W.any_some C.hd; rw [h1]; rfl
  rcases hd with hd | ⟨dx, fs, hd, hx⟩
  · obtain ⟨⟨oe, vs, ho, hz, hf, _⟩, _⟩ := I.hok ad _ hd
    have J : PySem.W.InstAt s.heap ad oe D none := by
      obtain ⟨oc, od, oda, osl⟩ := oe
      obtain ⟨h1, h2⟩ := hz
      dsimp only at h1 h2 hf
      subst h1 h2 hf
      exact ⟨ho, rfl, rfl, trivial⟩
    exact PySem.W.kia_one (PySem.W.handS_kitx_exc C.hg C.hk C.hs C.hd C.ha C.hn C.ht C.hm) I.kIn J hk (fun z => nomatch z) fun tk => ⟨.bl t, H, I.kept (t' := tk) fun _ _ z => z, rfl, q⟩
  · obtain ⟨t1, ho⟩ := exo_at I.hok hd
    obtain ⟨mA, hns, _⟩ := exd_at I.hok hx
    obtain ⟨od, hdd, _⟩ := lookIn_ns hns
    have J : PySem.W.InstAt s.heap ad { cls := .ref D, dict := some dx, data := .fields #[.ref t1, .none, .none, .none, .bool false, .none] } D (some od) := ⟨ho, rfl, rfl, hdd⟩
    exact PySem.W.kia_one (PySem.W.kitx_exc hcl C.hg C.hk C.hs C.ha C.hn C.ht C.hm) I.kIn J hk (fun z => nomatch z) fun tk => ⟨.bl t, H, I.kept (t' := tk) fun _ _ z => z, rfl, q⟩
theorem JE.isErr {m : Res Str} {u : Value} {cv : V} (t : Str → Bool) (C : ∀ x, x ∈ ns → ExcC X.K (ga X.K x)) (hk : ∀ x, x ∈ ns → PySem.W.kitOne X.K (.ref (ga X.K x)) u = Option.some (t x)) (je : JE X I0 H0 W ctx mem a m (rp (rErr X.K ns))) (jc : ∀ σ H Q, Q cv H → wE X b σ H Q) (hc : ClsV cv u) (hm : X.mg "isinstance" = Option.none) (hg : Gl X "isinstance" := by rfl)
    (hs : starEach [a, b] X.env = (false, eval a X.env) :: starEach [b] X.env := by rfl) (hs2 : starEach [b] X.env = (false, eval b X.env) :: starEach [] X.env := by rfl) (hpl : (backTo pos (starEach [b] X.env)).any (·.1) = false := by rfl) :
    JE X I0 H0 W ctx mem (.Call (.Name "isinstance" pos') [a, b] [] pos) (m.bind fun x => .ok (t x)) (rp rBl) := fun I H σ Q st q => by
  refine w_callB (id := "isinstance") (Tr.w_cons (je I H σ _ st ?_) hs) hm (by decide +kernel) hg (by decide) (by decide) hs hpl
  cases m with
  | ok x =>
    rintro I1 H1 v f1 ⟨hx, ad, e, hh⟩
    subst e
    refine Tr.w_cons (jc σ H1 _ (w_nil ?_)) hs2
    exact CallR.w (call_isT (C x hx)) ⟨cv, u, t x, rfl, fun w hw => hc.eq hw, hk x hx, hh.elim (fun h => .inl (f1.ih _ _ h)) fun ⟨dx, fs, h1, h2⟩ => .inr ⟨dx, fs, f1.ih _ _ h1, f1.ih _ _ h2⟩, q I1 H1 _ f1 rfl⟩
  | err e => exact q
  | stuck => exact q
end
end L2.Tr

namespace L2.Tr
open PySem PySem.Spec PyProof.Rows L2H
def FnLE (P : Program) (w : World) (K : PySem.W.Frag) (mg : Str → Option Value) (base : Heap) (k : Nat) (f : Addr) (sp : Addr × Obj → Sp) : Prop :=
  ∀ (A : Around) (outer : List Env) (s : Shared) (H : Hp) (us : List Value) (vs : List V) (Q : VK) (E : XK) (p : Addr × Obj), RoomH k A → Hot1 A p → PinOk outer H s p → Env0 P w K mg base A outer s H → Vals vs us → sp p vs H Q E →
    codeAny (model P w) A (.call (.ref f) ⟨us, []⟩) (CR (L2N.CX P w) outer P w H s Q E) s
section
variable {α β γ δ S L : Type} {P : Program} {w : World} {K : PySem.W.Frag} {mg : Str → Option Value} {base : Heap} {x qual : Str} {params : Arguments} {body : List Stmt} {scope : Scope} {f : Addr} {fd : FuncData} {N ps : List Str} {k : Nat} {r : Ra γ} {R : Addr × Obj → Hp → Hp → List V → δ → Prop} {m : δ → Res γ}
theorem fnLE_of (F : FunD K x qual params body scope [] [] f fd) (S : FnScope N ps scope) (len : ∀ p I H vs d, R p I H vs d → vs.length = ps.length) (bd : Binds K fd ps [])
    (hb : ∀ (cdv : Value) (A : Around) (outer : List Env) (s : Shared) (I0 H0 : Hp) (E : XK) (p : Addr × Obj) (vs : List V) (d : δ), RoomH k (A.deeper (envOfC qual scope s.heap.objs.size f cdv)) → Hot1 (A.deeper (envOfC qual scope s.heap.objs.size f cdv)) p → Same I0 H0 → R p I0 H0 vs d →
      ∃ G : Knows, G I0 H0 (start N vs) ∧ JR (cxH (L2N.CX P w) P w K mg base N qual scope f cdv A outer s H0 E p) I0 H0 (bW E) (bK I0 H0) G body (m d) r) : FnLE P w K mg base (k + 1) f (fun p => spF K (R p) m r) := by
  obtain ⟨oc, od, dV, kV, doc, pm, an, cdv, ct, osl, rfl, lk, hcd, _, _⟩ := F.ex
  intro A outer s H us vs Q E p hr hot hpin e0 rv hsp
  obtain ⟨I, d, sm, hR, post⟩ := hsp
  have hl := len _ _ _ _ _ hR
  have hul : us.length = ps.length := by rw [← rv.length]; exact hl
  have KX : K.In s.heap := e0.mod.kin.keeps fun b o e => (e0.bs b o e).1
  have lim : s.heap.NoLimit := e0.mod.nolimit.keeps fun b o e => (e0.bs b o e).1
  have names : ∀ y ∈ ps.zip us, scope.names.lookup y.1 = some .local ∨ (scope.names.lookup y.1 = some .cell ∧ ((cellsFrom (s.heap.objs.size + 1) scope.names []).lookup y.1).isSome = true) := by
    rintro ⟨n, v⟩ hy
    exact (S.par n (List.of_mem_zip hy).1).elim .inl fun q => .inr ⟨q, PySem.W.cellsFrom_some _ _ _ (.inl q)⟩
  have bnd := bd s us KX (by rw [List.append_nil]; exact hul)
  rw [List.append_nil] at bnd
  refine codeAny_call_function hr.depth (KX _ _ lk) rfl S.co S.gen rfl (PySem.W.codeRec_of KX hcd) (bnd _ _ _ _ ?_)
  refine wpAny_newFunctionEnv_cells S.kind names fun env he s1 made => ?_
  cases he
  refine ⟨lim.keeps made.toInCall.keep, codeAny_func ?_⟩
  have start_ := inv_startH (CX := L2N.CX P w) (E := E) S hpin e0 hl rv made
  obtain ⟨G, g, j⟩ := hb cdv A outer s I H E p vs d (hr.deeper _) hot sm hR
  have run := (j I H _ { nx := fun _ H' => Q .non H', rt := Q } g (by
    revert post
    show PostE K (m d) r I H E Q → PostR _ _ _ _ _ (m d) _ _
    generalize m d = z
    intro p
    cases z with
    | ok y => exact p
    | err e => exact fun I' H' _ c d f x => p I' H' c d f.1 ⟨f.2, x⟩
    | stuck => exact p)).out [] s1 start_
  refine wpAny_mono run (fun fl s2 hs => ?_) fun e s2 hs => hs
  cases fl with
  | ret u =>
    obtain ⟨v, σ2, H2, J, rv2, q⟩ := hs
    exact ⟨v, H2, J.os, J.bare, J.base, J.hok, rv2, q⟩
  | next =>
    obtain ⟨σ2, H2, J, q⟩ := hs
    exact ⟨.non, H2, J.os, J.bare, J.base, J.hok, rfl, q⟩
  | brk => obtain ⟨_, _, _, q⟩ := hs; exact False.elim q
  | cont => obtain ⟨_, _, _, q⟩ := hs; exact False.elim q
end
section
variable {α β γ δ : Type} {X : Cx} {W : WX} {f f' : Addr} {k : Nat} {ra : Ra α} {rb : Ra β} {rc : Ra γ} {R : Addr × Obj → Hp → Hp → List V → δ → Prop} {m : δ → Res γ}
theorem cj_hotE0 {p : Addr × Obj} (F : FnLE X.prog X.w X.K X.mg X.base k f (fun p => spF X.K (R p) m rc)) (hr : RoomH k X.A) (hot : Hot1 X.A p) (hp : p ∈ X.pn) (tk : L2N.Takes X W) : CallJ X W (.ref f) (R p) m rc := fun I H σ Q vs d sm h post pins s us Iv rv => by
  have P1 := Iv.pin p (List.mem_append_left _ hp)
  have hpin : PinOk X.stack H s p := ⟨P1.1, P1.2.1, fun hm => (List.mem_cons.mp (Iv.stkSub p.1 hm)).elim P1.2.2.1 P1.2.2.2.1, P1.2.2.2.2⟩
  refine wpAny_call (codeAny_mono (F X.A X.stack s H us vs Q _ p hr hot hpin Iv.env0 rv ⟨I, d, sm, h, post⟩) fun r s' hq => ?_)
  cases r with
  | error e => exact L2N.passAt tk σ pins H s e s' Iv hq
  | ok fl =>
    cases fl with
    | ret u => exact Iv.after hq
    | next => exact False.elim hq
    | brk => exact False.elim hq
    | cont => exact False.elim hq
variable {g : Rat × Num × Unit → Res γ}
theorem cj_hotE {p : Addr × Obj} {R' : Hp → Hp → List V → δ → Prop} (F : FnLE X.prog X.w X.K X.mg X.base k f (fun p => spF X.K (R p) m rc)) (hr : RoomH k X.A) (hot : Hot1 X.A p) (hp : p ∈ X.pn) (tk : L2N.Takes X W) (e : R p = R' := by rfl) : CallJ X W (.ref f) R' m rc := e ▸ cj_hotE0 F hr hot hp tk
end
theorem hot1_suite {X : Cx} {ad : Addr} {oe : Obj} {cls : Value} {d : Option Addr} {pn : List (Addr × Obj)} (hz : L2N.Zn cls d oe) (hf : ∃ vs, oe.data = .fields vs) : Hot1 (X.suite ad ((ad, oe) :: pn)).A (ad, oe) := by
  obtain ⟨vs, hv⟩ := hf
  exact ⟨rfl, vs, hv, hz.2.2 vs hv⟩
def rErrH (K : PySem.W.Frag) (ns : List Str) (p : Addr × Obj) : Rp Str := fun _ v x => v = .ref p.1 ∧ x ∈ ns ∧ L2N.Zn (.ref (He.ga K x)) none p.2 ∧ ∃ vs, p.2.data = .fields vs
instance {K : PySem.W.Frag} {ns : List Str} {p : Addr × Obj} : Mo (rErrH K ns p) := ⟨fun _ h => h⟩
section
variable {X : Cx} {I0 H0 I H : Hp} {W : WX} {ctx : List (Option SF)} {mem : List MF} {a b : Expr} {pos pos' : Pos} {n : Str} {ns : List Str}
theorem JE.excH {ad : Addr} {oe : Obj} {pn : List (Addr × Obj)} (c : Str) (hc : c ∈ ns) (hz : L2N.Zn (.ref (He.ga X.K c)) Option.none oe) (hf : ∃ vs, oe.data = .fields vs) (je : JE (X.suite ad ((ad, oe) :: pn)) I0 H0 W ctx mem a (.ok ()) (rp (rExc ad))) : JE (X.suite ad ((ad, oe) :: pn)) I0 H0 W ctx mem a (.ok c) (rp (rErrH X.K ns (ad, oe))) := fun I H σ Q st q => by
  refine je I H σ _ st ?_
  exact fun I1 H1 v f1 r1 => q _ _ _ f1 ⟨r1, hc, hz, hf⟩
theorem call_isP {p : Addr × Obj} {D : Addr} (C : ExcC X.K D) (hp : p ∈ X.pn) (hz : L2N.Zn (.ref D) none p.2) (hf : ∃ vs, p.2.data = .fields vs) : CallR X (.builtin "isinstance") (rIsE X.K D p.1) := by
  intro pins s σ H xs us Q I r h
  obtain ⟨c, cv, b, rfl, hcv, e, q⟩ := h
  cases r with
  | cons rx rr =>
    cases rr with
    | cons rt rr =>
      cases rr
      cases rx
      have ec := hcv _ rt
      subst ec
      obtain ⟨hget, _⟩ := I.pin p (List.mem_append.mpr (.inl hp))
      obtain ⟨vs, hv⟩ := hf
      have J : PySem.W.InstAt s.heap p.1 p.2 D none := by
        obtain ⟨pa, oc, od, oda, osl⟩ := p
        have h1 := hz.zc.1
        have h2 := hz.zc.2
        dsimp only at h1 h2 hv
        subst h1 h2 hv
        exact ⟨hget, rfl, rfl, trivial⟩
      exact PySem.W.kia_one (PySem.W.handS_kitx_exc C.hg C.hk C.hs C.hd C.ha C.hn C.ht C.hm) I.kIn J e (fun z => nomatch z) fun tk => ⟨.bl b, H, I.kept (t' := tk) fun _ _ z => z, rfl, q⟩
theorem JE.isErrH {p : Addr × Obj} {m : Res Str} {u : Value} {cv : V} (hp : p ∈ X.pn) (t : Str → Bool) (C : ∀ x, x ∈ ns → ExcC X.K (He.ga X.K x)) (hk : ∀ x, x ∈ ns → PySem.W.kitOne X.K (.ref (He.ga X.K x)) u = Option.some (t x)) (je : JE X I0 H0 W ctx mem a m (rp (rErrH X.K ns p))) (jc : ∀ σ H Q, Q cv H → wE X b σ H Q) (hc : ClsV cv u) (hm : X.mg "isinstance" = Option.none) (hg : Gl X "isinstance" := by rfl)
    (hs : starEach [a, b] X.env = (false, eval a X.env) :: starEach [b] X.env := by rfl) (hs2 : starEach [b] X.env = (false, eval b X.env) :: starEach [] X.env := by rfl) (hpl : (backTo pos (starEach [b] X.env)).any (·.1) = false := by rfl) :
    JE X I0 H0 W ctx mem (.Call (.Name "isinstance" pos') [a, b] [] pos) (m.bind fun x => .ok (t x)) (rp rBl) := fun I H σ Q st q => by
  refine w_callB (id := "isinstance") (Tr.w_cons (je I H σ _ st ?_) hs) hm (by decide +kernel) hg (by decide) (by decide) hs hpl
  cases m with
  | ok x =>
    rintro I1 H1 v f1 ⟨e, hx, hz, hf⟩
    subst e
    refine Tr.w_cons (jc σ H1 _ (w_nil ?_)) hs2
    exact CallR.w (call_isP (C x hx) hp hz hf) ⟨cv, u, t x, rfl, fun w hw => hc.eq hw, hk x hx, q I1 H1 _ f1 rfl⟩
  | err e => exact q
  | stuck => exact q
end
theorem excs_of {K : PySem.W.Frag} {ns : List Str} (c : fExcs ns K = true) : ∀ x, x ∈ ns → ExcC K (He.ga K x) := fun x hx => excC_of (List.all_eq_true.mp c x hx)
theorem kits_of {K : PySem.W.Frag} {ns : List Str} {y : Str} {t : Str → Bool} (c : fKits ns y t K = true) : ∀ x, x ∈ ns → PySem.W.kitOne K (.ref (He.ga K x)) (.ref (He.ga K y)) = some (t x) := fun x hx => kit_of' (List.all_eq_true.mp c x hx)
theorem kitsT_of {K : PySem.W.Frag} {ns : List Str} {y : String} {t : Str → Bool} (c : fKitsT ns y t K = true) : ∀ x, x ∈ ns → PySem.W.kitOne K (.ref (He.ga K x)) (.type y) = some (t x) := fun x hx => kitT_of (List.all_eq_true.mp c x hx)
end L2.Tr
namespace L2.Tr
open PySem PySem.Spec PyProof.Rows
def repT (x : Str) (n : Int) : Str := if n == 1 || x.length == 0 then x else ⟨(List.replicate n.toNat x.cps).foldl (· ++ ·) #[]⟩
def repS (x : Str) (n : Int) : Res Str := Res.guard (0 < n ∧ n ≤ 1000 ∧ x.length ≤ 1000 ∧ (repT x n).length ≤ 1000) (.ok (repT x n))
theorem opj_mulS {X : Cx} {W : WX} : OpJ X W (binaryOp .Mult) (rp rStr) (rp rInt) repS (rp rStr) := fun I H σ Q u v x y s hu hv p => by
  obtain ⟨⟨g0, g1, g2, g3⟩, p⟩ := post_guard p
  cases (show u = V.str x from hu)
  cases (show v = V.int y from hv)
  intro pins sh a b Iv ra rb
  obtain ⟨t, rfl⟩ := ra
  obtain ⟨t', rfl⟩ := rb
  have q : ∀ t2 tk, EP X pins σ Q (.str (repT x y) t2) { sh with toks := tk } := fun t2 tk => ⟨.str (repT x y), H, Iv.tok _, ⟨_, rfl⟩, p I H _ (Fm.refl s) rfl⟩
  refine P.mul_str ?_ (fun _ _ => ?_) (fun _ _ => ?_) ?_
  · rw [decide_eq_false (show ¬ y < -(2 ^ 63 : Int) by omega), decide_eq_false (show ¬ y ≥ (2 ^ 63 : Int) by omega)]; rfl
  · have h1 : (x.length : Int) * y ≤ 1000 * 1000 := Int.mul_le_mul (by omega) g1 (by omega) (by decide)
    have := (Int.le_ediv_iff_mul_le (a := (x.length : Int)) (b := 2 ^ 63 - 1) g0).mpr (by omega)
    omega
  · have h1 : x.length * y.toNat ≤ 1000 * 1000 := Nat.mul_le_mul g2 (by omega)
    exact decide_eq_false (by rw [sizeLine_eq]; omega)
  · rw [if_neg (by omega)]
    unfold repT at q g3
    by_cases c : (y == 1 || x.length == 0) = true
    · rw [if_pos c] at q g3 ⊢
      exact q t sh.toks
    · rw [if_neg c] at q g3 ⊢
      exact ⟨by rw [sizeLine_eq]; omega, q _ _⟩
end L2.Tr

namespace L2.Tr
def qf (r : Nat → Rat) (n : Nat) (p : Nat → Rat) : Rat := smQ (fun i => smQ (fun j => p i * p j * r (i + j)) n) n
structure HM (r : Nat → Rat) : Prop where
  h0 : ∀ n p, 0 ≤ qf r n p
  h1 : ∀ n p, 0 ≤ qf (fun k => r (k + 1)) n p
  h2 : ∀ n p, 0 ≤ qf (fun k => r k - r (k + 1)) n p
  h3 : ∀ n p, 0 ≤ qf (fun k => r (k + 1) - r (k + 2)) n p
end L2.Tr

namespace L2.Tr
def dn (n : Nat) (w : Nat → Nat → Rat) (U : Nat → Rat) (x : Nat → Rat) (c : Nat) : Rat := smQ (fun i => w i c * x i) n / U c
structure RW (R C : Nat) (w : Nat → Nat → Rat) (T U : Nat → Rat) : Prop where
  w0 : ∀ i c, i < R → c < C → 0 ≤ w i c
  T0 : ∀ i, i < R → 0 < T i
  U0 : ∀ c, c < C → 0 < U c
  hT : ∀ i, i < R → smQ (w i) C ≤ T i
  hU : ∀ c, c < C → smQ (fun i => w i c) R ≤ U c
def tr (w : Nat → Nat → Rat) : Nat → Nat → Rat := fun i c => w c i
section
variable {R C : Nat} {w : Nat → Nat → Rat} {T U : Nat → Rat}
def both (R C : Nat) (w : Nat → Nat → Rat) (T U : Nat → Rat) (x : Nat → Rat) : Nat → Rat := dn C (tr w) T (dn R w U x)
def pw (R C : Nat) (w : Nat → Nat → Rat) (T U : Nat → Rat) (e : Nat → Rat) : Nat → Nat → Rat
  | 0 => e
  | k + 1 => both R C w T U (pw R C w T U e k)
end
end L2.Tr

namespace L2.Tr
def hstep (s : Nat → Rat) (v : Nat → Rat) (k : Nat) : Rat := (if k = 0 then 0 else (1 - s (k - 1)) * v (k - 1)) + s (k + 1) * v (k + 1)
def fr (s : Nat → Rat) (m : Nat) : Nat → Nat → Rat
  | 0 => fun k => if k = m then 1 else 0
  | h + 1 => hstep s (fr s m h)
section
variable {s : Nat → Rat}
def pd (s : Nat → Rat) : Nat → Rat
  | 0 => 1
  | m + 1 => pd s m * s (m + 1)
def pc (s : Nat → Rat) : Nat → Rat
  | 0 => 1
  | m + 1 => pc s m * (1 - s m)
def gf (s : Nat → Rat) (i : Nat) : Rat := (1 - s (i - 1)) * s i
mutual
def pE (s : Nat → Rat) : Nat → Nat → Rat
  | 0 => fun k => if k = 0 then 1 else 0
  | j + 1 => fun k => (if k = 0 then 0 else pO s j (k - 1)) - pE s j k * gf s (2 * j + 1)
def pO (s : Nat → Rat) : Nat → Nat → Rat
  | 0 => fun k => if k = 0 then 1 else 0
  | j + 1 => fun k => (if k = 0 then 0 else pO s j (k - 1)) - pE s j k * gf s (2 * j + 1) - pO s j k * gf s (2 * j + 2)
end
end
end L2.Tr

namespace L2.Tr
structure LS (s : Nat → Rat) (n e : Nat) : Prop where
  h0 : s 0 = 0
  n0 : 0 < n
  mid : ∀ k, 0 < k → k < n → 0 < s k ∧ s k < 1
  en : (e = 0 ∧ s n = 0) ∨ (e = 1 ∧ s n = 1)
def gp (s : Nat → Rat) (t : Nat) : Rat := pc s t * pd s (t - 1)
section
variable {s : Nat → Rat} {n e : Nat}
def add (s : Nat → Rat) (n t : Nat) : Rat := if t ≤ n then s t * gp s t else 0
def nT (s : Nat → Rat) : Nat → Rat
  | 0 => 1
  | k + 1 => nT s k * (1 - s k) / s (k + 1)
def nW (s : Nat → Rat) (i c : Nat) : Rat := (if c = i + 1 then nT s i * (1 - s i) else 0) + (if c + 1 = i then nT s c * (1 - s c) else 0)
theorem LS.none (g : LS s n e) (he : e = 1) : ∀ h k, n < k → fr s 0 h k = 0
  | 0, k, hk => if_neg (by omega)
  | h + 1, k, hk => by
    show hstep s (fr s 0 h) k = 0
    unfold hstep
    rw [if_neg (by omega), g.none he h (k + 1) (by omega)]
    by_cases hn : k - 1 = n
    · rcases g.en with ⟨e0, _⟩ | ⟨_, z⟩
      · omega
      · rw [hn, z]; grind
    · rw [g.none he h (k - 1) (by omega)]; grind
def hf (s : Nat → Rat) (N : Nat) : Nat → Nat → Rat
  | 0 => fun i => if i = 0 then 1 else 0
  | h + 1 => dn N (nW s) (nT s) (hf s N h)
end
end L2.Tr

namespace L2.Tr
section
variable {D E M N : Nat} {x y : Rat}
end
section
variable {s : Nat → Rat} {Λ : Nat}
end
end L2.Tr

namespace L2.Tr
open PySem PySem.Spec PyProof.Rows
structure Txt (P : Program) (w : World) (K : PySem.W.Frag) (mg : Str → Option Value) : Prop where
  g_law_cell : mg "_law_cell" = some (.ref (He.ga K "_law_cell"))
  k_law_cell : PySem.W.keepIn K (.ref (He.ga K "_law_cell")) = true
  n_int : mg "int" = none
  g_law_without : mg "_law_without" = some (.ref (He.ga K "_law_without"))
  k_law_without : PySem.W.keepIn K (.ref (He.ga K "_law_without")) = true
  g_law_raised : mg "_law_raised" = some (.ref (He.ga K "_law_raised"))
  k_law_raised : PySem.W.keepIn K (.ref (He.ga K "_law_raised")) = true
  g_law_numbers : mg "_law_numbers" = some (.ref (He.ga K "_law_numbers"))
  k_law_numbers : PySem.W.keepIn K (.ref (He.ga K "_law_numbers")) = true
  g_law_strings : mg "_law_strings" = some (.ref (He.ga K "_law_strings"))
  k_law_strings : PySem.W.keepIn K (.ref (He.ga K "_law_strings")) = true
  g_Fraction : mg "Fraction" = some (.ref (He.ga K "Fraction"))
  mk_Fraction : Mk K (He.ga K "Fraction") (He.ma K (He.ga K "Fraction") "__init__")
  g_law_pairs : mg "_law_pairs" = some (.ref (He.ga K "_law_pairs"))
  k_law_pairs : PySem.W.keepIn K (.ref (He.ga K "_law_pairs")) = true
  n_len : mg "len" = none
  F_law_cell : ∃ fd, FunD K "_law_cell" "_law_cell" (defArgs s_law_cell) (defBody s_law_cell) (defScope s_law_cell) [] [] (He.ga K "_law_cell") fd
  ex_BadFraction : ExcP K mg "BadFraction"
  g_law_plain : mg "_law_plain" = some (.ref (He.ga K "_law_plain"))
  k_law_plain : PySem.W.keepIn K (.ref (He.ga K "_law_plain")) = true
  ex_BadPolynomial : ExcP K mg "BadPolynomial"
  ex_BadReadings : ExcP K mg "BadReadings"
  ex_NothingLeft : ExcP K mg "NothingLeft"
  g_BadFraction : mg "BadFraction" = some (.ref (He.ga K "BadFraction"))
  kt_BadFraction_BadFraction : PySem.W.kitOne K (.ref (He.ga K "BadFraction")) (.ref (He.ga K "BadFraction")) = some true
  xc_BadFraction : ExcC K (He.ga K "BadFraction")
  n_isinstance : mg "isinstance" = none
  xcs : ∀ x, x ∈ errNS → ExcC K (He.ga K x)
  g_TracerError : mg "TracerError" = some (.ref (He.ga K "TracerError"))
  kts_TracerError : ∀ x, x ∈ errNS → PySem.W.kitOne K (.ref (He.ga K x)) (.ref (He.ga K "TracerError")) = some ((fun (_ : Str) => true) x)
  n_ValueError : mg "ValueError" = none
  kts_ValueError : ∀ x, x ∈ errNS → PySem.W.kitOne K (.ref (He.ga K x)) (.type "ValueError") = some ((fun (_ : Str) => true) x)
  g_law_classes : mg "_law_classes" = some (.ref (He.ga K "_law_classes"))
  k_law_classes : PySem.W.keepIn K (.ref (He.ga K "_law_classes")) = true
  kts_BadFraction : ∀ x, x ∈ errNS → PySem.W.kitOne K (.ref (He.ga K x)) (.ref (He.ga K "BadFraction")) = some ((fun (x : Str) => decide (x = ("BadFraction" : Str))) x)
  g_BadPolynomial : mg "BadPolynomial" = some (.ref (He.ga K "BadPolynomial"))
  kts_BadPolynomial : ∀ x, x ∈ errNS → PySem.W.kitOne K (.ref (He.ga K x)) (.ref (He.ga K "BadPolynomial")) = some ((fun (x : Str) => decide (x = ("BadPolynomial" : Str))) x)
  g_BadReadings : mg "BadReadings" = some (.ref (He.ga K "BadReadings"))
  kts_BadReadings : ∀ x, x ∈ errNS → PySem.W.kitOne K (.ref (He.ga K x)) (.ref (He.ga K "BadReadings")) = some ((fun (x : Str) => decide (x = ("BadReadings" : Str))) x)
  g_NothingLeft : mg "NothingLeft" = some (.ref (He.ga K "NothingLeft"))
  kts_NothingLeft : ∀ x, x ∈ errNS → PySem.W.kitOne K (.ref (He.ga K x)) (.ref (He.ga K "NothingLeft")) = some ((fun (x : Str) => decide (x = ("NothingLeft" : Str))) x)
  g_BadShare : mg "BadShare" = some (.ref (He.ga K "BadShare"))
  kts_BadShare : ∀ x, x ∈ errNS → PySem.W.kitOne K (.ref (He.ga K x)) (.ref (He.ga K "BadShare")) = some ((fun (x : Str) => decide (x = ("BadShare" : Str))) x)
  g_BadTick : mg "BadTick" = some (.ref (He.ga K "BadTick"))
  kts_BadTick : ∀ x, x ∈ errNS → PySem.W.kitOne K (.ref (He.ga K x)) (.ref (He.ga K "BadTick")) = some ((fun (x : Str) => decide (x = ("BadTick" : Str))) x)
  g_BadRoom : mg "BadRoom" = some (.ref (He.ga K "BadRoom"))
  kts_BadRoom : ∀ x, x ∈ errNS → PySem.W.kitOne K (.ref (He.ga K x)) (.ref (He.ga K "BadRoom")) = some ((fun (x : Str) => decide (x = ("BadRoom" : Str))) x)
  g_BadWeb : mg "BadWeb" = some (.ref (He.ga K "BadWeb"))
  kts_BadWeb : ∀ x, x ∈ errNS → PySem.W.kitOne K (.ref (He.ga K x)) (.ref (He.ga K "BadWeb")) = some ((fun (x : Str) => decide (x = ("BadWeb" : Str))) x)
  g_BadLine : mg "BadLine" = some (.ref (He.ga K "BadLine"))
  kts_BadLine : ∀ x, x ∈ errNS → PySem.W.kitOne K (.ref (He.ga K x)) (.ref (He.ga K "BadLine")) = some ((fun (x : Str) => decide (x = ("BadLine" : Str))) x)
  g_BadForm : mg "BadForm" = some (.ref (He.ga K "BadForm"))
  kts_BadForm : ∀ x, x ∈ errNS → PySem.W.kitOne K (.ref (He.ga K x)) (.ref (He.ga K "BadForm")) = some ((fun (x : Str) => decide (x = ("BadForm" : Str))) x)
  g_BadText : mg "BadText" = some (.ref (He.ga K "BadText"))
  kts_BadText : ∀ x, x ∈ errNS → PySem.W.kitOne K (.ref (He.ga K x)) (.ref (He.ga K "BadText")) = some ((fun (x : Str) => decide (x = ("BadText" : Str))) x)
  g_BadName : mg "BadName" = some (.ref (He.ga K "BadName"))
  kts_BadName : ∀ x, x ∈ errNS → PySem.W.kitOne K (.ref (He.ga K x)) (.ref (He.ga K "BadName")) = some ((fun (x : Str) => decide (x = ("BadName" : Str))) x)
  g_TakenName : mg "TakenName" = some (.ref (He.ga K "TakenName"))
  kts_TakenName : ∀ x, x ∈ errNS → PySem.W.kitOne K (.ref (He.ga K x)) (.ref (He.ga K "TakenName")) = some ((fun (x : Str) => decide (x = ("TakenName" : Str))) x)
  g_UnknownName : mg "UnknownName" = some (.ref (He.ga K "UnknownName"))
  kts_UnknownName : ∀ x, x ∈ errNS → PySem.W.kitOne K (.ref (He.ga K x)) (.ref (He.ga K "UnknownName")) = some ((fun (x : Str) => decide (x = ("UnknownName" : Str))) x)
  g_FullReader : mg "FullReader" = some (.ref (He.ga K "FullReader"))
  kts_FullReader : ∀ x, x ∈ errNS → PySem.W.kitOne K (.ref (He.ga K x)) (.ref (He.ga K "FullReader")) = some ((fun (x : Str) => decide (x = ("FullReader" : Str))) x)
  g_Barred : mg "Barred" = some (.ref (He.ga K "Barred"))
  kts_Barred : ∀ x, x ∈ errNS → PySem.W.kitOne K (.ref (He.ga K x)) (.ref (He.ga K "Barred")) = some ((fun (x : Str) => decide (x = ("Barred" : Str))) x)
  g_OutOfRange : mg "OutOfRange" = some (.ref (He.ga K "OutOfRange"))
  kts_OutOfRange : ∀ x, x ∈ errNS → PySem.W.kitOne K (.ref (He.ga K x)) (.ref (He.ga K "OutOfRange")) = some ((fun (x : Str) => decide (x = ("OutOfRange" : Str))) x)
  g_Misfit : mg "Misfit" = some (.ref (He.ga K "Misfit"))
  kts_Misfit : ∀ x, x ∈ errNS → PySem.W.kitOne K (.ref (He.ga K x)) (.ref (He.ga K "Misfit")) = some ((fun (x : Str) => decide (x = ("Misfit" : Str))) x)
  g_NoWeb : mg "NoWeb" = some (.ref (He.ga K "NoWeb"))
  kts_NoWeb : ∀ x, x ∈ errNS → PySem.W.kitOne K (.ref (He.ga K x)) (.ref (He.ga K "NoWeb")) = some ((fun (x : Str) => decide (x = ("NoWeb" : Str))) x)
  F_law_classes : ∃ fd, FunD K "_law_classes" "_law_classes" (defArgs s_law_classes) (defBody s_law_classes) (defScope s_law_classes) [] [] (He.ga K "_law_classes") fd
  F_law_plain : ∃ fd, FunD K "_law_plain" "_law_plain" (defArgs s_law_plain) (defBody s_law_plain) (defScope s_law_plain) [] [] (He.ga K "_law_plain") fd
  xm_BadFraction_TracerError : PySem.W.exmOne K (.ref (He.ga K "BadFraction")) (.ref (He.ga K "TracerError")) = some true
  n_abs : mg "abs" = none
  F_common_divisor : ∃ fd, FunD K "common_divisor" "common_divisor" (defArgs s_common_divisor) (defBody s_common_divisor) (defScope s_common_divisor) [] [] (He.ga K "common_divisor") fd
  F_law_without : ∃ fd, FunD K "_law_without" "_law_without" (defArgs s_law_without) (defBody s_law_without) (defScope s_law_without) [] [] (He.ga K "_law_without") fd
  kt_BadTick_BadTick : PySem.W.kitOne K (.ref (He.ga K "BadTick")) (.ref (He.ga K "BadTick")) = some true
  xc_BadTick : ExcC K (He.ga K "BadTick")
  xm_BadTick_TracerError : PySem.W.exmOne K (.ref (He.ga K "BadTick")) (.ref (He.ga K "TracerError")) = some true
  ev_Barred : ExcV K mg "Barred" ["tick", "weights"]
  xm_Barred_Barred : PySem.W.exmOne K (.ref (He.ga K "Barred")) (.ref (He.ga K "Barred")) = some true
  F_BadTick_init : ∃ fd, FunD K "__init__" "BadTick.__init__" (defArgs s_BadTick_init) (defBody s_BadTick_init) (defScope s_BadTick_init) [] [] (He.ma K (He.ga K "BadTick") "__init__") fd
  ev_BadTick : ExcV K mg "BadTick" ["tick"]
  F_Barred_init : ∃ fd, FunD K "__init__" "Barred.__init__" (defArgs s_Barred_init) (defBody s_Barred_init) (defScope s_Barred_init) [] [] (He.ma K (He.ga K "Barred") "__init__") fd
  F_law_raised : ∃ fd, FunD K "_law_raised" "_law_raised" (defArgs s_law_raised) (defBody s_law_raised) (defScope s_law_raised) [] [] (He.ga K "_law_raised") fd
  ev_BadShare : ExcV K mg "BadShare" ["share"]
  ev_BadRoom : ExcV K mg "BadRoom" ["room"]
  ev_BadLine : ExcV K mg "BadLine" ["place"]
  ev_BadText : ExcV K mg "BadText" ["line", "column"]
  ev_FullReader : ExcV K mg "FullReader" ["most"]
  ev_Misfit : ExcV K mg "Misfit" ["tick"]
  ev_NoWeb : ExcV K mg "NoWeb" ["tick"]
  F_BadShare_init : ∃ fd, FunD K "__init__" "BadShare.__init__" (defArgs s_BadShare_init) (defBody s_BadShare_init) (defScope s_BadShare_init) [] [] (He.ma K (He.ga K "BadShare") "__init__") fd
  F_BadRoom_init : ∃ fd, FunD K "__init__" "BadRoom.__init__" (defArgs s_BadRoom_init) (defBody s_BadRoom_init) (defScope s_BadRoom_init) [] [] (He.ma K (He.ga K "BadRoom") "__init__") fd
  F_BadLine_init : ∃ fd, FunD K "__init__" "BadLine.__init__" (defArgs s_BadLine_init) (defBody s_BadLine_init) (defScope s_BadLine_init) [] [] (He.ma K (He.ga K "BadLine") "__init__") fd
  F_BadText_init : ∃ fd, FunD K "__init__" "BadText.__init__" (defArgs s_BadText_init) (defBody s_BadText_init) (defScope s_BadText_init) [] [] (He.ma K (He.ga K "BadText") "__init__") fd
  F_FullReader_init : ∃ fd, FunD K "__init__" "FullReader.__init__" (defArgs s_FullReader_init) (defBody s_FullReader_init) (defScope s_FullReader_init) [] [] (He.ma K (He.ga K "FullReader") "__init__") fd
  F_Misfit_init : ∃ fd, FunD K "__init__" "Misfit.__init__" (defArgs s_Misfit_init) (defBody s_Misfit_init) (defScope s_Misfit_init) [] [] (He.ma K (He.ga K "Misfit") "__init__") fd
  F_NoWeb_init : ∃ fd, FunD K "__init__" "NoWeb.__init__" (defArgs s_NoWeb_init) (defBody s_NoWeb_init) (defScope s_NoWeb_init) [] [] (He.ma K (He.ga K "NoWeb") "__init__") fd
  F_law_numbers : ∃ fd, FunD K "_law_numbers" "_law_numbers" (defArgs s_law_numbers) (defBody s_law_numbers) (defScope s_law_numbers) [] [] (He.ga K "_law_numbers") fd
  ev_BadWeb : ExcV K mg "BadWeb" ["reason"]
  ev_BadForm : ExcV K mg "BadForm" ["form"]
  ev_BadName : ExcV K mg "BadName" ["name"]
  ev_TakenName : ExcV K mg "TakenName" ["name"]
  ev_UnknownName : ExcV K mg "UnknownName" ["name"]
  F_BadWeb_init : ∃ fd, FunD K "__init__" "BadWeb.__init__" (defArgs s_BadWeb_init) (defBody s_BadWeb_init) (defScope s_BadWeb_init) [] [] (He.ma K (He.ga K "BadWeb") "__init__") fd
  F_BadForm_init : ∃ fd, FunD K "__init__" "BadForm.__init__" (defArgs s_BadForm_init) (defBody s_BadForm_init) (defScope s_BadForm_init) [] [] (He.ma K (He.ga K "BadForm") "__init__") fd
  F_BadName_init : ∃ fd, FunD K "__init__" "BadName.__init__" (defArgs s_BadName_init) (defBody s_BadName_init) (defScope s_BadName_init) [] [] (He.ma K (He.ga K "BadName") "__init__") fd
  F_TakenName_init : ∃ fd, FunD K "__init__" "TakenName.__init__" (defArgs s_TakenName_init) (defBody s_TakenName_init) (defScope s_TakenName_init) [] [] (He.ma K (He.ga K "TakenName") "__init__") fd
  F_UnknownName_init : ∃ fd, FunD K "__init__" "UnknownName.__init__" (defArgs s_UnknownName_init) (defBody s_UnknownName_init) (defScope s_UnknownName_init) [] [] (He.ma K (He.ga K "UnknownName") "__init__") fd
  F_law_strings : ∃ fd, FunD K "_law_strings" "_law_strings" (defArgs s_law_strings) (defBody s_law_strings) (defScope s_law_strings) [] [] (He.ga K "_law_strings") fd
  o_Fraction : OCls K (He.ga K "Fraction")
  om_Fraction_eq : OMet K (He.ga K "Fraction") "__eq__" (He.ma K (He.ga K "Fraction") "__eq__")
  nf_Fraction : PySem.W.notFirst K (He.ga K "Fraction") (.ref (He.ga K "Fraction")) = true ∧ PySem.W.notFirst K (He.ga K "Fraction") (.type "int") = true
  ev_OutOfRange : ExcV K mg "OutOfRange" ["least", "greatest"]
  F_OutOfRange_init : ∃ fd, FunD K "__init__" "OutOfRange.__init__" (defArgs s_OutOfRange_init) (defBody s_OutOfRange_init) (defScope s_OutOfRange_init) [] [] (He.ma K (He.ga K "OutOfRange") "__init__") fd
  na_Fraction_bottom : NoAttr K (He.ga K "Fraction") "bottom"
  na_Fraction_top : NoAttr K (He.ga K "Fraction") "top"
  kT_Fraction_int : PySem.W.kitOne K (.ref (He.ga K "Fraction")) (.type "int") = some false
  kt_Fraction_Fraction : PySem.W.kitOne K (.ref (He.ga K "Fraction")) (.ref (He.ga K "Fraction")) = some true
  F_Fraction_eq : ∃ fd, FunD K "__eq__" "Fraction.__eq__" (defArgs s_Fraction_eq) (defBody s_Fraction_eq) (defScope s_Fraction_eq) [] [] (He.ma K (He.ga K "Fraction") "__eq__") fd
  F_law_pairs : ∃ fd, FunD K "_law_pairs" "_law_pairs" (defArgs s_law_pairs) (defBody s_law_pairs) (defScope s_law_pairs) [] [] (He.ga K "_law_pairs") fd
  F_law : ∃ fd, FunD K "law" "law" (defArgs s_law) (defBody s_law) (defScope s_law) [] [] (He.ga K "law") fd
  g_law : mg "law" = some (.ref (He.ga K "law"))
  F_Fraction_init : ∃ fd, FunD K "__init__" "Fraction.__init__" (defArgs s_Fraction_init) (defBody s_Fraction_init) (defScope s_Fraction_init) [.int 1] [] (He.ma K (He.ga K "Fraction") "__init__") fd
  seer : fSeer K = true
  g_common_divisor : mg "common_divisor" = some (.ref (He.ga K "common_divisor"))
  k_common_divisor : PySem.W.keepIn K (.ref (He.ga K "common_divisor")) = true
  tree : P.given.tree = none

theorem sc_law_cell : FnScope ["_law_script", "_law_k"] ["_law_script", "_law_k"] (defScope s_law_cell) := ⟨rfl, rfl, rfl, by decide +kernel, rfl, by decide +kernel, by decide +kernel⟩
def m_law_cell (p_script : (List Int)) (p_k : Int) : Res Int :=
  (((Res.ok p_k).bind fun a107 => (((Res.ok p_script).bind fun a105 => (Res.ok ()).bind fun b106 => .ok (a105, b106)).bind (fun d => .ok (d.1.length : Int))).bind fun b108 => .ok (decide (a107 < b108))).bind fun x109 => if x109 = true then ((Res.ok p_script).bind fun a110 => (Res.ok p_k).bind fun b111 => atM a110 b111) else (Res.ok (0 : Int)))
abbrev C_law_cell (P : Program) (w : World) (K : PySem.W.Frag) (mg : Str → Option Value) (base : Heap) : Prop := FnR P w K mg base (L2N.CX P w) 1 (He.ga K "_law_cell") (spF K (aCons (rdL K (rp rInt)) (aCons (rp rInt) aNil)) (fun d => m_law_cell d.1 d.2.1) (rp rInt))
theorem ok_law_cell {P : Program} {w : World} {K : PySem.W.Frag} {mg : Str → Option Value} {base : Heap} (T : Txt P w K mg) {fd : FuncData} (F : FunD K "_law_cell" "_law_cell" (defArgs s_law_cell) (defBody s_law_cell) (defScope s_law_cell) [] [] (He.ga K "_law_cell") fd) : FnOk P w K mg base (L2N.CX P w) 1 (He.ga K "_law_cell") fd ["_law_script", "_law_k"] (spF K (aCons (rdL K (rp rInt)) (aCons (rp rInt) aNil)) (fun d => m_law_cell d.1 d.2.1) (rp rInt)) := by
  refine FunD.fn (k := 0) (N := ["_law_script", "_law_k"]) (ps := ["_law_script", "_law_k"]) F sc_law_cell (fun I H vs d h => ?_) (fun cdv A outer s I0 H0 E vs d hr sm h => ?_)
  · obtain ⟨v0, _, rfl, h0, v1, _, rfl, h1, rfl⟩ := h; rfl
  obtain ⟨v0, _, rfl, h0, v1, _, rfl, h1, rfl⟩ := h
  have hx : ∀ {ctx : List (Option SF)} {mem : List MF} (I H : Hp) (σ : St) (d : Option Addr), Stt I0 H0 ctx mem I H σ → Fr H0 d → bK I0 H0 I H σ d := fun _ _ _ _ s f => ⟨s.fm, f⟩
  have tk : L2N.Takes (bx P w K mg base ["_law_script", "_law_k"] "_law_cell" (defScope s_law_cell) (He.ga K "_law_cell") cdv A outer s H0 E) (bW E) := L2N.takes_of rfl rfl rfl rfl
  obtain ⟨p_script, p_k, _⟩ := d
  exact ⟨Stt I0 H0 [some (SF.mk (fun I v x => (rdL K (rp rInt)) I H0 v x) p_script), some (SF.mk rInt p_k)] [], Stt.start sm ⟨h0, h1, ini_nil rfl⟩ rfl (by simp), (JR.ifR (JT.cmp (JE.var 1) (JE.callB (JA.cons (JE.varP 0 (r := (rdL K (rp rInt)))) JA.nil) cj_len T.n_len boot_len) opj_lt) (JR.ret (JE.ix (JE.varP 0 (r := (rdL K (rp rInt)))) (JE.var 1)) hx) (JR.ret JE.int hx) hx)⟩
theorem fn_law_cell {P : Program} {w : World} {K : PySem.W.Frag} {mg : Str → Option Value} {base : Heap} (T : Txt P w K mg) : FnR P w K mg base (L2N.CX P w) 1 (He.ga K "_law_cell") (spF K (aCons (rdL K (rp rInt)) (aCons (rp rInt) aNil)) (fun d => m_law_cell d.1 d.2.1) (rp rInt)) := by
  obtain ⟨fd, F⟩ := T.F_law_cell
  exact FnOk.fr0 (ok_law_cell T F) (F.bindsN fun _ _ _ _ _ _ us hl => match us, hl with | [_, _], _ => rfl)
theorem sc_law_classes : FnScope ["_law_e", "_law_found"] ["_law_e"] (defScope s_law_classes) := ⟨rfl, rfl, rfl, by decide +kernel, rfl, by decide +kernel, by decide +kernel⟩
def m_law_classes (p_e : Str) : Res Int :=
  (((((((Res.ok p_e).bind fun a162 => .ok ((fun (x : Str) => decide (x = ("BadFraction" : Str))) a162)).bind fun a163 => (Res.ok ()).bind fun b164 => .ok (a163, b164)).bind (fun d => .ok (if d.1 = true then 1 else 0))).bind fun a168 => ((((Res.ok p_e).bind fun a165 => .ok ((fun (x : Str) => decide (x = ("BadPolynomial" : Str))) a165)).bind fun a166 => (Res.ok ()).bind fun b167 => .ok (a166, b167)).bind (fun d => .ok (if d.1 = true then 1 else 0))).bind fun b169 => .ok (a168 + b169)).bind fun a173 => ((((Res.ok p_e).bind fun a170 => .ok ((fun (x : Str) => decide (x = ("BadReadings" : Str))) a170)).bind fun a171 => (Res.ok ()).bind fun b172 => .ok (a171, b172)).bind (fun d => .ok (if d.1 = true then 1 else 0))).bind fun b174 => .ok (a173 + b174)).bind fun v161 => (((((Res.ok v161).bind fun a179 => ((((Res.ok p_e).bind fun a176 => .ok ((fun (x : Str) => decide (x = ("NothingLeft" : Str))) a176)).bind fun a177 => (Res.ok ()).bind fun b178 => .ok (a177, b178)).bind (fun d => .ok (if d.1 = true then 1 else 0))).bind fun b180 => .ok (a179 + b180)).bind fun a184 => ((((Res.ok p_e).bind fun a181 => .ok ((fun (x : Str) => decide (x = ("BadShare" : Str))) a181)).bind fun a182 => (Res.ok ()).bind fun b183 => .ok (a182, b183)).bind (fun d => .ok (if d.1 = true then 1 else 0))).bind fun b185 => .ok (a184 + b185)).bind fun a189 => ((((Res.ok p_e).bind fun a186 => .ok ((fun (x : Str) => decide (x = ("BadTick" : Str))) a186)).bind fun a187 => (Res.ok ()).bind fun b188 => .ok (a187, b188)).bind (fun d => .ok (if d.1 = true then 1 else 0))).bind fun b190 => .ok (a189 + b190)).bind fun v175 => (((((Res.ok v175).bind fun a195 => ((((Res.ok p_e).bind fun a192 => .ok ((fun (x : Str) => decide (x = ("BadRoom" : Str))) a192)).bind fun a193 => (Res.ok ()).bind fun b194 => .ok (a193, b194)).bind (fun d => .ok (if d.1 = true then 1 else 0))).bind fun b196 => .ok (a195 + b196)).bind fun a200 => ((((Res.ok p_e).bind fun a197 => .ok ((fun (x : Str) => decide (x = ("BadWeb" : Str))) a197)).bind fun a198 => (Res.ok ()).bind fun b199 => .ok (a198, b199)).bind (fun d => .ok (if d.1 = true then 1 else 0))).bind fun b201 => .ok (a200 + b201)).bind fun a205 => ((((Res.ok p_e).bind fun a202 => .ok ((fun (x : Str) => decide (x = ("BadLine" : Str))) a202)).bind fun a203 => (Res.ok ()).bind fun b204 => .ok (a203, b204)).bind (fun d => .ok (if d.1 = true then 1 else 0))).bind fun b206 => .ok (a205 + b206)).bind fun v191 => (((((Res.ok v191).bind fun a211 => ((((Res.ok p_e).bind fun a208 => .ok ((fun (x : Str) => decide (x = ("BadForm" : Str))) a208)).bind fun a209 => (Res.ok ()).bind fun b210 => .ok (a209, b210)).bind (fun d => .ok (if d.1 = true then 1 else 0))).bind fun b212 => .ok (a211 + b212)).bind fun a216 => ((((Res.ok p_e).bind fun a213 => .ok ((fun (x : Str) => decide (x = ("BadText" : Str))) a213)).bind fun a214 => (Res.ok ()).bind fun b215 => .ok (a214, b215)).bind (fun d => .ok (if d.1 = true then 1 else 0))).bind fun b217 => .ok (a216 + b217)).bind fun a221 => ((((Res.ok p_e).bind fun a218 => .ok ((fun (x : Str) => decide (x = ("BadName" : Str))) a218)).bind fun a219 => (Res.ok ()).bind fun b220 => .ok (a219, b220)).bind (fun d => .ok (if d.1 = true then 1 else 0))).bind fun b222 => .ok (a221 + b222)).bind fun v207 => (((((Res.ok v207).bind fun a227 => ((((Res.ok p_e).bind fun a224 => .ok ((fun (x : Str) => decide (x = ("TakenName" : Str))) a224)).bind fun a225 => (Res.ok ()).bind fun b226 => .ok (a225, b226)).bind (fun d => .ok (if d.1 = true then 1 else 0))).bind fun b228 => .ok (a227 + b228)).bind fun a232 => ((((Res.ok p_e).bind fun a229 => .ok ((fun (x : Str) => decide (x = ("UnknownName" : Str))) a229)).bind fun a230 => (Res.ok ()).bind fun b231 => .ok (a230, b231)).bind (fun d => .ok (if d.1 = true then 1 else 0))).bind fun b233 => .ok (a232 + b233)).bind fun a237 => ((((Res.ok p_e).bind fun a234 => .ok ((fun (x : Str) => decide (x = ("FullReader" : Str))) a234)).bind fun a235 => (Res.ok ()).bind fun b236 => .ok (a235, b236)).bind (fun d => .ok (if d.1 = true then 1 else 0))).bind fun b238 => .ok (a237 + b238)).bind fun v223 => (((((Res.ok v223).bind fun a243 => ((((Res.ok p_e).bind fun a240 => .ok ((fun (x : Str) => decide (x = ("Barred" : Str))) a240)).bind fun a241 => (Res.ok ()).bind fun b242 => .ok (a241, b242)).bind (fun d => .ok (if d.1 = true then 1 else 0))).bind fun b244 => .ok (a243 + b244)).bind fun a248 => ((((Res.ok p_e).bind fun a245 => .ok ((fun (x : Str) => decide (x = ("OutOfRange" : Str))) a245)).bind fun a246 => (Res.ok ()).bind fun b247 => .ok (a246, b247)).bind (fun d => .ok (if d.1 = true then 1 else 0))).bind fun b249 => .ok (a248 + b249)).bind fun a253 => ((((Res.ok p_e).bind fun a250 => .ok ((fun (x : Str) => decide (x = ("Misfit" : Str))) a250)).bind fun a251 => (Res.ok ()).bind fun b252 => .ok (a251, b252)).bind (fun d => .ok (if d.1 = true then 1 else 0))).bind fun b254 => .ok (a253 + b254)).bind fun v239 => ((Res.ok v239).bind fun a258 => ((((Res.ok p_e).bind fun a255 => .ok ((fun (x : Str) => decide (x = ("NoWeb" : Str))) a255)).bind fun a256 => (Res.ok ()).bind fun b257 => .ok (a256, b257)).bind (fun d => .ok (if d.1 = true then 1 else 0))).bind fun b259 => .ok (a258 + b259))))))))
abbrev C_law_classes (P : Program) (w : World) (K : PySem.W.Frag) (mg : Str → Option Value) (base : Heap) : Prop := FnR P w K mg base (L2N.CX P w) 1 (He.ga K "_law_classes") (spF K (aCons (rp (rErr K errNS)) aNil) (fun d => m_law_classes d.1) (rp rInt))
theorem ok_law_classes {P : Program} {w : World} {K : PySem.W.Frag} {mg : Str → Option Value} {base : Heap} (T : Txt P w K mg) {fd : FuncData} (F : FunD K "_law_classes" "_law_classes" (defArgs s_law_classes) (defBody s_law_classes) (defScope s_law_classes) [] [] (He.ga K "_law_classes") fd) : FnOk P w K mg base (L2N.CX P w) 1 (He.ga K "_law_classes") fd ["_law_e"] (spF K (aCons (rp (rErr K errNS)) aNil) (fun d => m_law_classes d.1) (rp rInt)) := by
  refine FunD.fn (k := 0) (N := ["_law_e", "_law_found"]) (ps := ["_law_e"]) F sc_law_classes (fun I H vs d h => ?_) (fun cdv A outer s I0 H0 E vs d hr sm h => ?_)
  · obtain ⟨v0, _, rfl, h0, rfl⟩ := h; rfl
  obtain ⟨v0, _, rfl, h0, rfl⟩ := h
  have hx : ∀ {ctx : List (Option SF)} {mem : List MF} (I H : Hp) (σ : St) (d : Option Addr), Stt I0 H0 ctx mem I H σ → Fr H0 d → bK I0 H0 I H σ d := fun _ _ _ _ s f => ⟨s.fm, f⟩
  have tk : L2N.Takes (bx P w K mg base ["_law_e", "_law_found"] "_law_classes" (defScope s_law_classes) (He.ga K "_law_classes") cdv A outer s H0 E) (bW E) := L2N.takes_of rfl rfl rfl rfl
  obtain ⟨p_e, _⟩ := d
  exact ⟨Stt I0 H0 [some (SF.mk (rErr K errNS) p_e), none] [], Stt.start sm ⟨h0, ini_nil rfl⟩ rfl (by simp), (JR.seq (J1.cx (c' := fun v161 => [some (SF.mk (rErr K errNS) p_e), some (SF.mk rInt v161)]) (J1.set 1 (JE.bin (JE.bin (JE.callTy (JA.cons (JE.isErr (fun (x : Str) => decide (x = ("BadFraction" : Str))) T.xcs T.kts_BadFraction (JE.var 0) (w_glob_at T.g_BadFraction rfl (by decide)) (.own _) T.n_isinstance) JA.nil) cj_intB T.n_int boot_int) (JE.callTy (JA.cons (JE.isErr (fun (x : Str) => decide (x = ("BadPolynomial" : Str))) T.xcs T.kts_BadPolynomial (JE.var 0) (w_glob_at T.g_BadPolynomial rfl (by decide)) (.own _) T.n_isinstance) JA.nil) cj_intB T.n_int boot_int) opj_add) (JE.callTy (JA.cons (JE.isErr (fun (x : Str) => decide (x = ("BadReadings" : Str))) T.xcs T.kts_BadReadings (JE.var 0) (w_glob_at T.g_BadReadings rfl (by decide)) (.own _) T.n_isinstance) JA.nil) cj_intB T.n_int boot_int) opj_add) hx sc_law_classes.nd)) fun v161 => (JR.seq (J1.cx (c' := fun v175 => [some (SF.mk (rErr K errNS) p_e), some (SF.mk rInt v175)]) (J1.set 1 (JE.bin (JE.bin (JE.bin (JE.var 1) (JE.callTy (JA.cons (JE.isErr (fun (x : Str) => decide (x = ("NothingLeft" : Str))) T.xcs T.kts_NothingLeft (JE.var 0) (w_glob_at T.g_NothingLeft rfl (by decide)) (.own _) T.n_isinstance) JA.nil) cj_intB T.n_int boot_int) opj_add) (JE.callTy (JA.cons (JE.isErr (fun (x : Str) => decide (x = ("BadShare" : Str))) T.xcs T.kts_BadShare (JE.var 0) (w_glob_at T.g_BadShare rfl (by decide)) (.own _) T.n_isinstance) JA.nil) cj_intB T.n_int boot_int) opj_add) (JE.callTy (JA.cons (JE.isErr (fun (x : Str) => decide (x = ("BadTick" : Str))) T.xcs T.kts_BadTick (JE.var 0) (w_glob_at T.g_BadTick rfl (by decide)) (.own _) T.n_isinstance) JA.nil) cj_intB T.n_int boot_int) opj_add) hx sc_law_classes.nd)) fun v175 => (JR.seq (J1.cx (c' := fun v191 => [some (SF.mk (rErr K errNS) p_e), some (SF.mk rInt v191)]) (J1.set 1 (JE.bin (JE.bin (JE.bin (JE.var 1) (JE.callTy (JA.cons (JE.isErr (fun (x : Str) => decide (x = ("BadRoom" : Str))) T.xcs T.kts_BadRoom (JE.var 0) (w_glob_at T.g_BadRoom rfl (by decide)) (.own _) T.n_isinstance) JA.nil) cj_intB T.n_int boot_int) opj_add) (JE.callTy (JA.cons (JE.isErr (fun (x : Str) => decide (x = ("BadWeb" : Str))) T.xcs T.kts_BadWeb (JE.var 0) (w_glob_at T.g_BadWeb rfl (by decide)) (.own _) T.n_isinstance) JA.nil) cj_intB T.n_int boot_int) opj_add) (JE.callTy (JA.cons (JE.isErr (fun (x : Str) => decide (x = ("BadLine" : Str))) T.xcs T.kts_BadLine (JE.var 0) (w_glob_at T.g_BadLine rfl (by decide)) (.own _) T.n_isinstance) JA.nil) cj_intB T.n_int boot_int) opj_add) hx sc_law_classes.nd)) fun v191 => (JR.seq (J1.cx (c' := fun v207 => [some (SF.mk (rErr K errNS) p_e), some (SF.mk rInt v207)]) (J1.set 1 (JE.bin (JE.bin (JE.bin (JE.var 1) (JE.callTy (JA.cons (JE.isErr (fun (x : Str) => decide (x = ("BadForm" : Str))) T.xcs T.kts_BadForm (JE.var 0) (w_glob_at T.g_BadForm rfl (by decide)) (.own _) T.n_isinstance) JA.nil) cj_intB T.n_int boot_int) opj_add) (JE.callTy (JA.cons (JE.isErr (fun (x : Str) => decide (x = ("BadText" : Str))) T.xcs T.kts_BadText (JE.var 0) (w_glob_at T.g_BadText rfl (by decide)) (.own _) T.n_isinstance) JA.nil) cj_intB T.n_int boot_int) opj_add) (JE.callTy (JA.cons (JE.isErr (fun (x : Str) => decide (x = ("BadName" : Str))) T.xcs T.kts_BadName (JE.var 0) (w_glob_at T.g_BadName rfl (by decide)) (.own _) T.n_isinstance) JA.nil) cj_intB T.n_int boot_int) opj_add) hx sc_law_classes.nd)) fun v207 => (JR.seq (J1.cx (c' := fun v223 => [some (SF.mk (rErr K errNS) p_e), some (SF.mk rInt v223)]) (J1.set 1 (JE.bin (JE.bin (JE.bin (JE.var 1) (JE.callTy (JA.cons (JE.isErr (fun (x : Str) => decide (x = ("TakenName" : Str))) T.xcs T.kts_TakenName (JE.var 0) (w_glob_at T.g_TakenName rfl (by decide)) (.own _) T.n_isinstance) JA.nil) cj_intB T.n_int boot_int) opj_add) (JE.callTy (JA.cons (JE.isErr (fun (x : Str) => decide (x = ("UnknownName" : Str))) T.xcs T.kts_UnknownName (JE.var 0) (w_glob_at T.g_UnknownName rfl (by decide)) (.own _) T.n_isinstance) JA.nil) cj_intB T.n_int boot_int) opj_add) (JE.callTy (JA.cons (JE.isErr (fun (x : Str) => decide (x = ("FullReader" : Str))) T.xcs T.kts_FullReader (JE.var 0) (w_glob_at T.g_FullReader rfl (by decide)) (.own _) T.n_isinstance) JA.nil) cj_intB T.n_int boot_int) opj_add) hx sc_law_classes.nd)) fun v223 => (JR.seq (J1.cx (c' := fun v239 => [some (SF.mk (rErr K errNS) p_e), some (SF.mk rInt v239)]) (J1.set 1 (JE.bin (JE.bin (JE.bin (JE.var 1) (JE.callTy (JA.cons (JE.isErr (fun (x : Str) => decide (x = ("Barred" : Str))) T.xcs T.kts_Barred (JE.var 0) (w_glob_at T.g_Barred rfl (by decide)) (.own _) T.n_isinstance) JA.nil) cj_intB T.n_int boot_int) opj_add) (JE.callTy (JA.cons (JE.isErr (fun (x : Str) => decide (x = ("OutOfRange" : Str))) T.xcs T.kts_OutOfRange (JE.var 0) (w_glob_at T.g_OutOfRange rfl (by decide)) (.own _) T.n_isinstance) JA.nil) cj_intB T.n_int boot_int) opj_add) (JE.callTy (JA.cons (JE.isErr (fun (x : Str) => decide (x = ("Misfit" : Str))) T.xcs T.kts_Misfit (JE.var 0) (w_glob_at T.g_Misfit rfl (by decide)) (.own _) T.n_isinstance) JA.nil) cj_intB T.n_int boot_int) opj_add) hx sc_law_classes.nd)) fun v239 => (JR.ret (JE.bin (JE.var 1) (JE.callTy (JA.cons (JE.isErr (fun (x : Str) => decide (x = ("NoWeb" : Str))) T.xcs T.kts_NoWeb (JE.var 0) (w_glob_at T.g_NoWeb rfl (by decide)) (.own _) T.n_isinstance) JA.nil) cj_intB T.n_int boot_int) opj_add) hx)))))))⟩
theorem fn_law_classes {P : Program} {w : World} {K : PySem.W.Frag} {mg : Str → Option Value} {base : Heap} (T : Txt P w K mg) : FnR P w K mg base (L2N.CX P w) 1 (He.ga K "_law_classes") (spF K (aCons (rp (rErr K errNS)) aNil) (fun d => m_law_classes d.1) (rp rInt)) := by
  obtain ⟨fd, F⟩ := T.F_law_classes
  exact FnOk.fr0 (ok_law_classes T F) (F.bindsN fun _ _ _ _ _ _ us hl => match us, hl with | [_], _ => rfl)
theorem sc_law_plain : FnScope ["_law_e"] ["_law_e"] (defScope s_law_plain) := ⟨rfl, rfl, rfl, by decide +kernel, rfl, by decide +kernel, by decide +kernel⟩
def m_law_plain (p_e : Str) : Res Bool :=
  (((Res.ok p_e).bind fun a151 => .ok ((fun (_ : Str) => true) a151)).bind fun a159 => if a159 = true then (((Res.ok p_e).bind fun a152 => .ok ((fun (_ : Str) => true) a152)).bind fun a158 => if a158 = true then ((((Res.ok p_e).bind fun a154 => (Res.ok ()).bind fun b155 => .ok (a154, b155)).bind (fun d => m_law_classes d.1)).bind fun a156 => (Res.ok (1 : Int)).bind fun b157 => .ok (decide (a156 = b157))) else .ok false) else .ok false)
abbrev C_law_plain (P : Program) (w : World) (K : PySem.W.Frag) (mg : Str → Option Value) (base : Heap) : Prop := FnR P w K mg base (L2N.CX P w) 2 (He.ga K "_law_plain") (spF K (aCons (rp (rErr K errNS)) aNil) (fun d => m_law_plain d.1) (rp rBl))
theorem ok_law_plain {P : Program} {w : World} {K : PySem.W.Frag} {mg : Str → Option Value} {base : Heap} (T : Txt P w K mg) (c_law_classes : C_law_classes P w K mg base) {fd : FuncData} (F : FunD K "_law_plain" "_law_plain" (defArgs s_law_plain) (defBody s_law_plain) (defScope s_law_plain) [] [] (He.ga K "_law_plain") fd) : FnOk P w K mg base (L2N.CX P w) 2 (He.ga K "_law_plain") fd ["_law_e"] (spF K (aCons (rp (rErr K errNS)) aNil) (fun d => m_law_plain d.1) (rp rBl)) := by
  refine FunD.fn (k := 1) (N := ["_law_e"]) (ps := ["_law_e"]) F sc_law_plain (fun I H vs d h => ?_) (fun cdv A outer s I0 H0 E vs d hr sm h => ?_)
  · obtain ⟨v0, _, rfl, h0, rfl⟩ := h; rfl
  obtain ⟨v0, _, rfl, h0, rfl⟩ := h
  have hx : ∀ {ctx : List (Option SF)} {mem : List MF} (I H : Hp) (σ : St) (d : Option Addr), Stt I0 H0 ctx mem I H σ → Fr H0 d → bK I0 H0 I H σ d := fun _ _ _ _ s f => ⟨s.fm, f⟩
  have tk : L2N.Takes (bx P w K mg base ["_law_e"] "_law_plain" (defScope s_law_plain) (He.ga K "_law_plain") cdv A outer s H0 E) (bW E) := L2N.takes_of rfl rfl rfl rfl
  obtain ⟨p_e, _⟩ := d
  exact ⟨Stt I0 H0 [some (SF.mk (rErr K errNS) p_e)] [], Stt.start sm ⟨h0, ini_nil rfl⟩ rfl (by simp), (JR.ret (JE.and (JE.isErr (fun (_ : Str) => true) T.xcs T.kts_TracerError (JE.var 0) (w_glob_at T.g_TracerError rfl (by decide)) (.own _) T.n_isinstance) (JE.and (JE.isErr (fun (_ : Str) => true) T.xcs T.kts_ValueError (JE.var 0) (w_type_at T.n_ValueError (by decide +kernel) rfl (by decide) (by decide)) (.ty _) T.n_isinstance) (JE.one (JE.cmp (JE.call (JA.cons (JE.var 0) JA.nil) (cj_of c_law_classes (hr.mono (by decide)) tk) T.g_law_classes T.k_law_classes) JE.int opj_eq)))) hx)⟩
theorem fn_law_plain {P : Program} {w : World} {K : PySem.W.Frag} {mg : Str → Option Value} {base : Heap} (T : Txt P w K mg) (c_law_classes : C_law_classes P w K mg base) : FnR P w K mg base (L2N.CX P w) 2 (He.ga K "_law_plain") (spF K (aCons (rp (rErr K errNS)) aNil) (fun d => m_law_plain d.1) (rp rBl)) := by
  obtain ⟨fd, F⟩ := T.F_law_plain
  exact FnOk.fr0 (ok_law_plain T c_law_classes F) (F.bindsN fun _ _ _ _ _ _ us hl => match us, hl with | [_], _ => rfl)
abbrev C_law_classes_vhot (P : Program) (w : World) (K : PySem.W.Frag) (mg : Str → Option Value) (base : Heap) : Prop := FnLE P w K mg base 1 (He.ga K "_law_classes") (fun p => spF K (aCons (rp (rErrH K errNS p)) aNil) (fun d => m_law_classes d.1) (rp rInt))
theorem fn_law_classes_vhot {P : Program} {w : World} {K : PySem.W.Frag} {mg : Str → Option Value} {base : Heap} (T : Txt P w K mg) : FnLE P w K mg base 1 (He.ga K "_law_classes") (fun p => spF K (aCons (rp (rErrH K errNS p)) aNil) (fun d => m_law_classes d.1) (rp rInt)) := by
  obtain ⟨fd, F⟩ := T.F_law_classes
  refine fnLE_of (k := 0) (N := ["_law_e", "_law_found"]) (ps := ["_law_e"]) F sc_law_classes (fun p I H vs d h => ?_) (F.bindsN fun _ _ _ _ _ _ us hl => match us, hl with | [_], _ => rfl) (fun cdv A outer s I0 H0 E pin vs d hr hot sm h => ?_)
  · obtain ⟨v0, _, rfl, h0, rfl⟩ := h; rfl
  obtain ⟨v0, _, rfl, h0, rfl⟩ := h
  have hx : ∀ {ctx : List (Option SF)} {mem : List MF} (I H : Hp) (σ : St) (d : Option Addr), Stt I0 H0 ctx mem I H σ → Fr H0 d → bK I0 H0 I H σ d := fun _ _ _ _ s f => ⟨s.fm, f⟩
  have tk : L2N.Takes (L2H.cxH (L2N.CX P w) P w K mg base ["_law_e", "_law_found"] "_law_classes" (defScope s_law_classes) (He.ga K "_law_classes") cdv A outer s H0 E pin) (bW E) := L2N.takes_of rfl rfl rfl rfl
  obtain ⟨p_e, _⟩ := d
  exact ⟨Stt I0 H0 [some (SF.mk (rErrH K errNS pin) p_e), none] [], Stt.start sm ⟨h0, ini_nil rfl⟩ rfl (by simp), (JR.seq (J1.cx (c' := fun v161 => [some (SF.mk (rErrH K errNS pin) p_e), some (SF.mk rInt v161)]) (J1.set 1 (JE.bin (JE.bin (JE.callTy (JA.cons (JE.isErrH List.mem_cons_self (fun (x : Str) => decide (x = ("BadFraction" : Str))) T.xcs T.kts_BadFraction (JE.var 0) (w_glob_at T.g_BadFraction rfl (by decide)) (.own _) T.n_isinstance) JA.nil) cj_intB T.n_int boot_int) (JE.callTy (JA.cons (JE.isErrH List.mem_cons_self (fun (x : Str) => decide (x = ("BadPolynomial" : Str))) T.xcs T.kts_BadPolynomial (JE.var 0) (w_glob_at T.g_BadPolynomial rfl (by decide)) (.own _) T.n_isinstance) JA.nil) cj_intB T.n_int boot_int) opj_add) (JE.callTy (JA.cons (JE.isErrH List.mem_cons_self (fun (x : Str) => decide (x = ("BadReadings" : Str))) T.xcs T.kts_BadReadings (JE.var 0) (w_glob_at T.g_BadReadings rfl (by decide)) (.own _) T.n_isinstance) JA.nil) cj_intB T.n_int boot_int) opj_add) hx sc_law_classes.nd)) fun v161 => (JR.seq (J1.cx (c' := fun v175 => [some (SF.mk (rErrH K errNS pin) p_e), some (SF.mk rInt v175)]) (J1.set 1 (JE.bin (JE.bin (JE.bin (JE.var 1) (JE.callTy (JA.cons (JE.isErrH List.mem_cons_self (fun (x : Str) => decide (x = ("NothingLeft" : Str))) T.xcs T.kts_NothingLeft (JE.var 0) (w_glob_at T.g_NothingLeft rfl (by decide)) (.own _) T.n_isinstance) JA.nil) cj_intB T.n_int boot_int) opj_add) (JE.callTy (JA.cons (JE.isErrH List.mem_cons_self (fun (x : Str) => decide (x = ("BadShare" : Str))) T.xcs T.kts_BadShare (JE.var 0) (w_glob_at T.g_BadShare rfl (by decide)) (.own _) T.n_isinstance) JA.nil) cj_intB T.n_int boot_int) opj_add) (JE.callTy (JA.cons (JE.isErrH List.mem_cons_self (fun (x : Str) => decide (x = ("BadTick" : Str))) T.xcs T.kts_BadTick (JE.var 0) (w_glob_at T.g_BadTick rfl (by decide)) (.own _) T.n_isinstance) JA.nil) cj_intB T.n_int boot_int) opj_add) hx sc_law_classes.nd)) fun v175 => (JR.seq (J1.cx (c' := fun v191 => [some (SF.mk (rErrH K errNS pin) p_e), some (SF.mk rInt v191)]) (J1.set 1 (JE.bin (JE.bin (JE.bin (JE.var 1) (JE.callTy (JA.cons (JE.isErrH List.mem_cons_self (fun (x : Str) => decide (x = ("BadRoom" : Str))) T.xcs T.kts_BadRoom (JE.var 0) (w_glob_at T.g_BadRoom rfl (by decide)) (.own _) T.n_isinstance) JA.nil) cj_intB T.n_int boot_int) opj_add) (JE.callTy (JA.cons (JE.isErrH List.mem_cons_self (fun (x : Str) => decide (x = ("BadWeb" : Str))) T.xcs T.kts_BadWeb (JE.var 0) (w_glob_at T.g_BadWeb rfl (by decide)) (.own _) T.n_isinstance) JA.nil) cj_intB T.n_int boot_int) opj_add) (JE.callTy (JA.cons (JE.isErrH List.mem_cons_self (fun (x : Str) => decide (x = ("BadLine" : Str))) T.xcs T.kts_BadLine (JE.var 0) (w_glob_at T.g_BadLine rfl (by decide)) (.own _) T.n_isinstance) JA.nil) cj_intB T.n_int boot_int) opj_add) hx sc_law_classes.nd)) fun v191 => (JR.seq (J1.cx (c' := fun v207 => [some (SF.mk (rErrH K errNS pin) p_e), some (SF.mk rInt v207)]) (J1.set 1 (JE.bin (JE.bin (JE.bin (JE.var 1) (JE.callTy (JA.cons (JE.isErrH List.mem_cons_self (fun (x : Str) => decide (x = ("BadForm" : Str))) T.xcs T.kts_BadForm (JE.var 0) (w_glob_at T.g_BadForm rfl (by decide)) (.own _) T.n_isinstance) JA.nil) cj_intB T.n_int boot_int) opj_add) (JE.callTy (JA.cons (JE.isErrH List.mem_cons_self (fun (x : Str) => decide (x = ("BadText" : Str))) T.xcs T.kts_BadText (JE.var 0) (w_glob_at T.g_BadText rfl (by decide)) (.own _) T.n_isinstance) JA.nil) cj_intB T.n_int boot_int) opj_add) (JE.callTy (JA.cons (JE.isErrH List.mem_cons_self (fun (x : Str) => decide (x = ("BadName" : Str))) T.xcs T.kts_BadName (JE.var 0) (w_glob_at T.g_BadName rfl (by decide)) (.own _) T.n_isinstance) JA.nil) cj_intB T.n_int boot_int) opj_add) hx sc_law_classes.nd)) fun v207 => (JR.seq (J1.cx (c' := fun v223 => [some (SF.mk (rErrH K errNS pin) p_e), some (SF.mk rInt v223)]) (J1.set 1 (JE.bin (JE.bin (JE.bin (JE.var 1) (JE.callTy (JA.cons (JE.isErrH List.mem_cons_self (fun (x : Str) => decide (x = ("TakenName" : Str))) T.xcs T.kts_TakenName (JE.var 0) (w_glob_at T.g_TakenName rfl (by decide)) (.own _) T.n_isinstance) JA.nil) cj_intB T.n_int boot_int) opj_add) (JE.callTy (JA.cons (JE.isErrH List.mem_cons_self (fun (x : Str) => decide (x = ("UnknownName" : Str))) T.xcs T.kts_UnknownName (JE.var 0) (w_glob_at T.g_UnknownName rfl (by decide)) (.own _) T.n_isinstance) JA.nil) cj_intB T.n_int boot_int) opj_add) (JE.callTy (JA.cons (JE.isErrH List.mem_cons_self (fun (x : Str) => decide (x = ("FullReader" : Str))) T.xcs T.kts_FullReader (JE.var 0) (w_glob_at T.g_FullReader rfl (by decide)) (.own _) T.n_isinstance) JA.nil) cj_intB T.n_int boot_int) opj_add) hx sc_law_classes.nd)) fun v223 => (JR.seq (J1.cx (c' := fun v239 => [some (SF.mk (rErrH K errNS pin) p_e), some (SF.mk rInt v239)]) (J1.set 1 (JE.bin (JE.bin (JE.bin (JE.var 1) (JE.callTy (JA.cons (JE.isErrH List.mem_cons_self (fun (x : Str) => decide (x = ("Barred" : Str))) T.xcs T.kts_Barred (JE.var 0) (w_glob_at T.g_Barred rfl (by decide)) (.own _) T.n_isinstance) JA.nil) cj_intB T.n_int boot_int) opj_add) (JE.callTy (JA.cons (JE.isErrH List.mem_cons_self (fun (x : Str) => decide (x = ("OutOfRange" : Str))) T.xcs T.kts_OutOfRange (JE.var 0) (w_glob_at T.g_OutOfRange rfl (by decide)) (.own _) T.n_isinstance) JA.nil) cj_intB T.n_int boot_int) opj_add) (JE.callTy (JA.cons (JE.isErrH List.mem_cons_self (fun (x : Str) => decide (x = ("Misfit" : Str))) T.xcs T.kts_Misfit (JE.var 0) (w_glob_at T.g_Misfit rfl (by decide)) (.own _) T.n_isinstance) JA.nil) cj_intB T.n_int boot_int) opj_add) hx sc_law_classes.nd)) fun v239 => (JR.ret (JE.bin (JE.var 1) (JE.callTy (JA.cons (JE.isErrH List.mem_cons_self (fun (x : Str) => decide (x = ("NoWeb" : Str))) T.xcs T.kts_NoWeb (JE.var 0) (w_glob_at T.g_NoWeb rfl (by decide)) (.own _) T.n_isinstance) JA.nil) cj_intB T.n_int boot_int) opj_add) hx)))))))⟩
abbrev C_law_plain_vhot (P : Program) (w : World) (K : PySem.W.Frag) (mg : Str → Option Value) (base : Heap) : Prop := FnLE P w K mg base 2 (He.ga K "_law_plain") (fun p => spF K (aCons (rp (rErrH K errNS p)) aNil) (fun d => m_law_plain d.1) (rp rBl))
theorem fn_law_plain_vhot {P : Program} {w : World} {K : PySem.W.Frag} {mg : Str → Option Value} {base : Heap} (T : Txt P w K mg) (c_law_classes_vhot : C_law_classes_vhot P w K mg base) : FnLE P w K mg base 2 (He.ga K "_law_plain") (fun p => spF K (aCons (rp (rErrH K errNS p)) aNil) (fun d => m_law_plain d.1) (rp rBl)) := by
  obtain ⟨fd, F⟩ := T.F_law_plain
  refine fnLE_of (k := 1) (N := ["_law_e"]) (ps := ["_law_e"]) F sc_law_plain (fun p I H vs d h => ?_) (F.bindsN fun _ _ _ _ _ _ us hl => match us, hl with | [_], _ => rfl) (fun cdv A outer s I0 H0 E pin vs d hr hot sm h => ?_)
  · obtain ⟨v0, _, rfl, h0, rfl⟩ := h; rfl
  obtain ⟨v0, _, rfl, h0, rfl⟩ := h
  have hx : ∀ {ctx : List (Option SF)} {mem : List MF} (I H : Hp) (σ : St) (d : Option Addr), Stt I0 H0 ctx mem I H σ → Fr H0 d → bK I0 H0 I H σ d := fun _ _ _ _ s f => ⟨s.fm, f⟩
  have tk : L2N.Takes (L2H.cxH (L2N.CX P w) P w K mg base ["_law_e"] "_law_plain" (defScope s_law_plain) (He.ga K "_law_plain") cdv A outer s H0 E pin) (bW E) := L2N.takes_of rfl rfl rfl rfl
  obtain ⟨p_e, _⟩ := d
  exact ⟨Stt I0 H0 [some (SF.mk (rErrH K errNS pin) p_e)] [], Stt.start sm ⟨h0, ini_nil rfl⟩ rfl (by simp), (JR.ret (JE.and (JE.isErrH List.mem_cons_self (fun (_ : Str) => true) T.xcs T.kts_TracerError (JE.var 0) (w_glob_at T.g_TracerError rfl (by decide)) (.own _) T.n_isinstance) (JE.and (JE.isErrH List.mem_cons_self (fun (_ : Str) => true) T.xcs T.kts_ValueError (JE.var 0) (w_type_at T.n_ValueError (by decide +kernel) rfl (by decide) (by decide)) (.ty _) T.n_isinstance) (JE.one (JE.cmp (JE.call (JA.cons (JE.var 0) JA.nil) (cj_hotE c_law_classes_vhot (hr.mono (by decide)) hot List.mem_cons_self tk) T.g_law_classes T.k_law_classes) JE.int opj_eq)))) hx)⟩
theorem sc_common_divisor : FnScope ["first", "second"] ["first", "second"] (defScope s_common_divisor) := ⟨rfl, rfl, rfl, by decide +kernel, rfl, by decide +kernel, by decide +kernel⟩
def m_common_divisor (p_first : Int) (p_second : Int) : Res Int :=
  ((((Res.ok p_first).bind fun a264 => (Res.ok ()).bind fun b265 => .ok (a264, b265)).bind (fun d => .ok (if d.1 < 0 then -d.1 else d.1))).bind fun v263 => ((((Res.ok p_second).bind fun a267 => (Res.ok ()).bind fun b268 => .ok (a267, b268)).bind (fun d => .ok (if d.1 < 0 then -d.1 else d.1))).bind fun v266 => ((whileM (fun s269 : (Int × Int) => ((Res.ok s269.2).bind fun a270 => (Res.ok (0 : Int)).bind fun b271 => .ok (!decide (a270 = b271)))) (fun s269 => (((Res.ok s269.2).bind fun a275 => ((Res.ok s269.1).bind fun a273 => (Res.ok s269.2).bind fun b274 => modI a273 b274).bind fun b276 => .ok (a275, b276)).bind fun v272 => (Res.ok (v272.1, v272.2)))) ((v266).toNat + 1) (v263, v266)).bind fun s269 => (Res.ok s269.1))))
abbrev C_common_divisor (P : Program) (w : World) (K : PySem.W.Frag) (mg : Str → Option Value) (base : Heap) : Prop := FnR P w K mg base (L2N.CX P w) 1 (He.ga K "common_divisor") (spF K (aCons (rp rInt) (aCons (rp rInt) aNil)) (fun d => n_cd d.1 d.2.1) (rp rInt))
theorem ok_common_divisor {P : Program} {w : World} {K : PySem.W.Frag} {mg : Str → Option Value} {base : Heap} (T : Txt P w K mg) {fd : FuncData} (F : FunD K "common_divisor" "common_divisor" (defArgs s_common_divisor) (defBody s_common_divisor) (defScope s_common_divisor) [] [] (He.ga K "common_divisor") fd) : FnOk P w K mg base (L2N.CX P w) 1 (He.ga K "common_divisor") fd ["first", "second"] (spF K (aCons (rp rInt) (aCons (rp rInt) aNil)) (fun d => m_common_divisor d.1 d.2.1) (rp rInt)) := by
  refine FunD.fn (k := 0) (N := ["first", "second"]) (ps := ["first", "second"]) F sc_common_divisor (fun I H vs d h => ?_) (fun cdv A outer s I0 H0 E vs d hr sm h => ?_)
  · obtain ⟨v0, _, rfl, h0, v1, _, rfl, h1, rfl⟩ := h; rfl
  obtain ⟨v0, _, rfl, h0, v1, _, rfl, h1, rfl⟩ := h
  have hx : ∀ {ctx : List (Option SF)} {mem : List MF} (I H : Hp) (σ : St) (d : Option Addr), Stt I0 H0 ctx mem I H σ → Fr H0 d → bK I0 H0 I H σ d := fun _ _ _ _ s f => ⟨s.fm, f⟩
  have tk : L2N.Takes (bx P w K mg base ["first", "second"] "common_divisor" (defScope s_common_divisor) (He.ga K "common_divisor") cdv A outer s H0 E) (bW E) := L2N.takes_of rfl rfl rfl rfl
  have hp : PsO9 P w (bx P w K mg base ["first", "second"] "common_divisor" (defScope s_common_divisor) (He.ga K "common_divisor") cdv A outer s H0 E) := passes_of rfl
  obtain ⟨p_first, p_second, _⟩ := d
  exact ⟨Stt I0 H0 [some (SF.mk rInt p_first), some (SF.mk rInt p_second)] [], Stt.start sm ⟨h0, h1, ini_nil rfl⟩ rfl (by simp), (JR.seq (J1.cx (c' := fun v263 => [some (SF.mk rInt v263), some (SF.mk rInt p_second)]) (J1.set 0 (JE.callB (JA.cons (JE.var 0) JA.nil) cj_abs T.n_abs boot_abs) hx sc_common_divisor.nd)) fun v263 => (JR.seq (J1.cx (c' := fun v266 => [some (SF.mk rInt v263), some (SF.mk rInt v266)]) (J1.set 1 (JE.callB (JA.cons (JE.var 1) JA.nil) cj_abs T.n_abs boot_abs) hx sc_common_divisor.nd)) fun v266 => (JR.seq (J1.while (S := (Int × Int)) (cx := fun s269 => [some (SF.mk rInt s269.1), some (SF.mk rInt s269.2)]) (me := fun s269 => []) (s0 := (v263, v266)) (fuel := (v266).toNat + 1) hp (fun s269 => (JT.cmp (JE.var 1) JE.int opj_ne)) (fun s269 => (JN.seq (J1.cx (c' := fun v272 => [some (SF.mk rInt v272.1), some (SF.mk rInt v272.2)]) (J1.par 0 1 (JE.var 1) (JE.bin (JE.var 0) (JE.var 1) opj_mod) hx sc_common_divisor.nd)) fun v272 => (JN.nil (fun _ _ _ h => h)))) fun _ => hx) fun s269 => (JR.ret (JE.var 0) hx))))⟩
theorem fn_common_divisor {P : Program} {w : World} {K : PySem.W.Frag} {mg : Str → Option Value} {base : Heap} (T : Txt P w K mg) : FnR P w K mg base (L2N.CX P w) 1 (He.ga K "common_divisor") (spF K (aCons (rp rInt) (aCons (rp rInt) aNil)) (fun d => m_common_divisor d.1 d.2.1) (rp rInt)) := by
  obtain ⟨fd, F⟩ := T.F_common_divisor
  exact FnOk.fr0 (ok_common_divisor T F) (F.bindsN fun _ _ _ _ _ _ us hl => match us, hl with | [_, _], _ => rfl)
theorem nice_common_divisor : ∀ d : Int × Int × Unit, n_cd d.1 d.2.1 = .stuck ∨ n_cd d.1 d.2.1 = m_common_divisor d.1 d.2.1 := fun ⟨a, b, _⟩ => by
  right
  show Res.ok _ = m_common_divisor a b
  have e : m_common_divisor a b = (whileM _ _ ((absI b).toNat + 1) (absI a, absI b)).bind fun s => .ok s.1 := rfl
  rw [e, absI_eq a, absI_eq b]
  simp only [Res.ok_bind]
  rw [cd_loop (fun s => rfl) (fun s h => by simp only [Res.ok_bind, modI_ok h]) _ _ _ (by omega)]
  simp only [Res.ok_bind, Int.gcd, Nat.gcd_comm b.natAbs]
theorem sc_Fraction_init : FnScope ["self", "top", "bottom", "divisor"] ["self", "top", "bottom"] (defScope s_Fraction_init) := ⟨rfl, rfl, rfl, by decide +kernel, rfl, by decide +kernel, by decide +kernel⟩
def mi_Fraction (top bottom : Int) : Res (Int × Int) :=
  (((Res.ok bottom).bind fun a => (Res.ok (0 : Int)).bind fun b => .ok (decide (a = b))).bind fun x => if x = true then (Res.err eBF : Res Unit) else .ok ()).bind fun _ =>
  (((Res.ok top).bind fun a => ((Res.ok bottom).bind fun b => (Res.ok ()).bind fun c => .ok (b, c)).bind fun d => .ok (a, d)).bind fun d => n_cd d.1 d.2.1).bind fun dv =>
  (((Res.ok bottom).bind fun a => (Res.ok (0 : Int)).bind fun b => .ok (decide (a < b))).bind fun x => if x = true then ((Res.ok dv).bind fun a => .ok (-a)).bind fun v => (Res.ok v) else .ok dv).bind fun s =>
  ((Res.ok top).bind fun a => (Res.ok s).bind fun b => fdivB a b).bind fun x =>
  ((Res.ok bottom).bind fun a => (Res.ok s).bind fun b => fdivB a b).bind fun y => .ok (x, y)
theorem mi_Fraction_eq (t b : Int) : mi_Fraction t b = (qRaw t b).bind fun q => .ok (q.num, (q.den : Int)) := by
  unfold mi_Fraction qRaw
  simp only [Res.ok_bind, n_cd]
  by_cases hb : b = 0
  · simp [hb]
  · simp only [hb, decide_false, Bool.false_eq_true, if_false, Res.ok_bind]
    have key : ∀ dv : Int, dv = (if b < 0 then -(Int.gcd t b : Int) else (Int.gcd t b : Int)) → (fdivB t dv).bind (fun x => (fdivB b dv).bind fun y => .ok (x, y)) = (Res.ok (Rat.divInt t b)).bind fun q => .ok (q.num, (q.den : Int)) := fun dv hd => by
      obtain ⟨e1, e2⟩ := div_num hb dv hd
      have hg : Int.gcd t b ≠ 0 := fun h => hb (Int.gcd_eq_zero_iff.mp h).2
      have nz : dv ≠ 0 := by rw [hd]; split <;> omega
      unfold fdivB
      rw [Res.guard_pos nz, Res.guard_pos nz, e1, e2]; rfl
    by_cases hlt : b < 0
    · simp only [hlt, decide_true, if_true, Res.ok_bind]
      exact key _ (by rw [if_pos hlt])
    · simp only [hlt, decide_false, Bool.false_eq_true, if_false, Res.ok_bind]
      exact key _ (by rw [if_neg hlt])
theorem in_Fraction {P : Program} {w : World} {K : PySem.W.Frag} {mg : Str → Option Value} {base : Heap} (T : Txt P w K mg) (c_common_divisor : C_common_divisor P w K mg base) {fd : FuncData} (F : FunD K "__init__" "Fraction.__init__" (defArgs s_Fraction_init) (defBody s_Fraction_init) (defScope s_Fraction_init) [.int 1] [] (He.ma K (He.ga K "Fraction") "__init__") fd) :
    FnOk P w K mg base (L2N.CX P w) 36 (He.ma K (He.ga K "Fraction") "__init__") fd ["self", "top", "bottom"] (spI K (He.ga K "Fraction") (aCons (rp rInt) (aCons (rp rInt) aNil)) (fun d => qRaw d.1 d.2.1) (rp (rFrac K))) := by
  refine FunD.init (k := 35) (N := ["self", "top", "bottom", "divisor"]) (S := Int × Int) F sc_Fraction_init (fun I H vs d h => ?_) (fun cdv A outer s I0 H0 H1 E vs d y dx hr sm h n1 n2 n3 eH => ?_)
  · obtain ⟨v0, _, rfl, h0, v1, _, rfl, h1, rfl⟩ := h; rfl
  obtain ⟨v0, _, rfl, h0, v1, _, rfl, h1, rfl⟩ := h
  obtain ⟨t, b, _⟩ := d
  have hx : ∀ {ctx : List (Option SF)} {mem : List MF} (I H : Hp) (σ : St) (d : Option Addr), Stt I0 H0 ctx mem I H σ → Fr H0 d → bK I0 H0 I H σ d := fun _ _ _ _ s f => ⟨s.fm, f⟩
  have tk : L2N.Takes (bx P w K mg base ["self", "top", "bottom", "divisor"] "Fraction.__init__" (defScope s_Fraction_init) (He.ma K (He.ga K "Fraction") "__init__") cdv A outer s H1 E) (bW E) := L2N.takes_of rfl rfl rfl rfl
  have lg : Large (bx P w K mg base ["self", "top", "bottom", "divisor"] "Fraction.__init__" (defScope s_Fraction_init) (He.ma K (He.ga K "Fraction") "__init__") cdv A outer s H1 E) := .bx T.seer T.tree hr sc_Fraction_init
  refine ⟨Stt I0 H0 [some ⟨rRef y, ()⟩, some ⟨rInt, t⟩, some ⟨rInt, b⟩, none] [.ins y (He.ga K "Fraction") dx []], Int × Int, mi_Fraction t b, fun s I H σ => ∃ ctx, Stt I0 H0 ctx [.ins y (He.ga K "Fraction") dx [("top", ⟨rInt, s.1⟩), ("bottom", ⟨rInt, s.2⟩)]] I H σ, ?_, ?_, ?_⟩
  · subst eH
    exact Stt.fresh sm n1 n2 n3 rfl fun i sf e => IniR.get (n := 1) (vs := [.ref y, v0, v1]) (c := [some ⟨rRef y, ()⟩, some ⟨rInt, t⟩, some ⟨rInt, b⟩, none]) ⟨rfl, h0, h1, ini_nil rfl⟩ i sf e
  · exact JN.seq (J1.if (S := Unit) (G' := fun _ => Stt I0 H0 [some ⟨rRef y, ()⟩, some ⟨rInt, t⟩, some ⟨rInt, b⟩, none] [.ins y (He.ga K "Fraction") dx []]) (JT.cmp (JE.var 2) JE.int opj_eq) (JN.last (J1.raiseP rfl tk T.ex_BadFraction hx)) (JN.nil fun _ _ _ h => h) hx) fun _ =>
      JN.seq (J1.set 3 (JE.call (JA.cons (JE.var 1) (JA.cons (JE.var 2) JA.nil)) (cj_of c_common_divisor (hr.mono (by decide)) tk) T.g_common_divisor T.k_common_divisor) hx sc_Fraction_init.nd) fun dv =>
      JN.seq (J1.if (S := Int) (G' := fun s => Stt I0 H0 [some ⟨rRef y, ()⟩, some ⟨rInt, t⟩, some ⟨rInt, b⟩, some ⟨rInt, s⟩] [.ins y (He.ga K "Fraction") dx []]) (JT.cmp (JE.var 2) JE.int opj_lt) (JN.seq (J1.set 3 (JE.un (JE.var 3) unj_neg) hx sc_Fraction_init.nd) fun v => JN.nil fun _ _ _ h => h) (JN.nil fun _ _ _ h => h) hx) fun s =>
      JN.seq (J1.sfld 0 (JE.bin (JE.var 1) (JE.var 3) (opj_fdivB lg)) T.o_Fraction.cl T.na_Fraction_top (by decide) hx) fun x =>
      JN.seq (J1.sfld 0 (JE.bin (JE.var 2) (JE.var 3) (opj_fdivB lg)) T.o_Fraction.cl T.na_Fraction_bottom (by simp [putG]) hx) fun y' => JN.nil fun _ _ _ h => ⟨_, h⟩
  · rw [mi_Fraction_eq]
    dsimp only
    generalize qRaw t b = z
    cases z with
    | err e => rfl
    | stuck => rfl
    | ok q =>
      refine ⟨q, rfl, fun I' H' σ' ⟨ctx, g⟩ => ?_⟩
      obtain ⟨fs, I2, e1, hf, g2, sm2, e2⟩ := g.freeze
      exact ⟨I2, g2.fm, y, dx, rfl, by rw [e2, frF_of rfl rfl hf]⟩
abbrev C_Fraction_2 (P : Program) (w : World) (K : PySem.W.Frag) (mg : Str → Option Value) (base : Heap) : Prop := MkR P w K mg base 37 (He.ga K "Fraction") (aCons (rp rInt) (aCons (rp rInt) aNil)) (fun d => qMk d.1 d.2.1) (rp (rFrac K))
theorem fn_Fraction_2 {P : Program} {w : World} {K : PySem.W.Frag} {mg : Str → Option Value} {base : Heap} (T : Txt P w K mg) (c_common_divisor : C_common_divisor P w K mg base) : C_Fraction_2 P w K mg base := by
  obtain ⟨fd, F⟩ := T.F_Fraction_init
  obtain ⟨ds, hd, hb⟩ := FunD.binds1 (ps := ["self", "top", "bottom"]) F 3 1 (by simp) rfl fun T kV doc pm an cdv ct us its hl hi => match us, hl, its, hi with | [_, _, _], _, [_], _ => ⟨_, rfl, rfl⟩
  exact MkR.nice (mkR_of (h := fun d => d) T.mk_Fraction (in_Fraction T c_common_divisor F) hb hd fun I H vs d h => by rw [show List.drop 1 [V.int 1] = [] from rfl, List.append_nil]; exact h) fun d => qMk_raw d.1 d.2.1

theorem sc_law_without : FnScope ["_law_number", "_law_e"] ["_law_number"] (defScope s_law_without) := ⟨rfl, rfl, rfl, by decide +kernel, rfl, by decide +kernel, by decide +kernel⟩
def m_law_without (p_number : Int) : Res Bool :=
  (((((((Res.ok ()).bind fun _ => .ok ("BadFraction" : Str)).bind fun a115 => (Res.ok ()).bind fun b116 => .ok (a115, b116)).bind (fun d => m_law_plain d.1)).bind fun a117 => .ok (!a117)).bind fun a122 => if a122 = true then .ok true else (((((Res.ok ()).bind fun _ => .ok ("BadPolynomial" : Str)).bind fun a119 => (Res.ok ()).bind fun b120 => .ok (a119, b120)).bind (fun d => m_law_plain d.1)).bind fun a121 => .ok (!a121))).bind fun x123 => if x123 = true then (Res.ok false) else (((((((Res.ok ()).bind fun _ => .ok ("BadReadings" : Str)).bind fun a126 => (Res.ok ()).bind fun b127 => .ok (a126, b127)).bind (fun d => m_law_plain d.1)).bind fun a128 => .ok (!a128)).bind fun a133 => if a133 = true then .ok true else (((((Res.ok ()).bind fun _ => .ok ("NothingLeft" : Str)).bind fun a130 => (Res.ok ()).bind fun b131 => .ok (a130, b131)).bind (fun d => m_law_plain d.1)).bind fun a132 => .ok (!a132))).bind fun x134 => if x134 = true then (Res.ok false) else ((tryG (((((Res.ok p_number).bind fun a141 => ((Res.ok (0 : Int)).bind fun a139 => (Res.ok ()).bind fun b140 => .ok (a139, b140)).bind fun b142 => .ok (a141, b142)).bind (fun d => qMk d.1 d.2.1)).bind fun u143 => (Res.ok (Fl.nx ()))) : Res (Fl Unit Unit Bool)) [("BadFraction", true)] (fun ee => if ee.pay.isEmpty = true then (((Res.ok true).bind fun a148 => if a148 = true then (((Res.ok ("BadFraction" : Str)).bind fun a146 => (Res.ok ()).bind fun b147 => .ok (a146, b147)).bind (fun d => m_law_plain d.1)) else .ok false).bind fun r150 => .ok (Fl.rt r150)) else .stuck)).bind (Fl.out fun s261 => (Res.ok false)))))
abbrev C_law_without (P : Program) (w : World) (K : PySem.W.Frag) (mg : Str → Option Value) (base : Heap) : Prop := FnR P w K mg base (L2N.CX P w) 38 (He.ga K "_law_without") (spF K (aCons (rp rInt) aNil) (fun d => m_law_without d.1) (rp rBl))
theorem ok_law_without {P : Program} {w : World} {K : PySem.W.Frag} {mg : Str → Option Value} {base : Heap} (T : Txt P w K mg) (c_law_plain : C_law_plain P w K mg base) (c_Fraction_2 : C_Fraction_2 P w K mg base) (c_law_plain_vhot : C_law_plain_vhot P w K mg base) {fd : FuncData} (F : FunD K "_law_without" "_law_without" (defArgs s_law_without) (defBody s_law_without) (defScope s_law_without) [] [] (He.ga K "_law_without") fd) : FnOk P w K mg base (L2N.CX P w) 38 (He.ga K "_law_without") fd ["_law_number"] (spF K (aCons (rp rInt) aNil) (fun d => m_law_without d.1) (rp rBl)) := by
  refine FunD.fn (k := 37) (N := ["_law_number", "_law_e"]) (ps := ["_law_number"]) F sc_law_without (fun I H vs d h => ?_) (fun cdv A outer s I0 H0 E vs d hr sm h => ?_)
  · obtain ⟨v0, _, rfl, h0, rfl⟩ := h; rfl
  obtain ⟨v0, _, rfl, h0, rfl⟩ := h
  have hx : ∀ {ctx : List (Option SF)} {mem : List MF} (I H : Hp) (σ : St) (d : Option Addr), Stt I0 H0 ctx mem I H σ → Fr H0 d → bK I0 H0 I H σ d := fun _ _ _ _ s f => ⟨s.fm, f⟩
  have tk : L2N.Takes (bx P w K mg base ["_law_number", "_law_e"] "_law_without" (defScope s_law_without) (He.ga K "_law_without") cdv A outer s H0 E) (bW E) := L2N.takes_of rfl rfl rfl rfl
  have hp : PsO9 P w (bx P w K mg base ["_law_number", "_law_e"] "_law_without" (defScope s_law_without) (He.ga K "_law_without") cdv A outer s H0 E) := passes_of rfl
  obtain ⟨p_number, _⟩ := d
  exact ⟨Stt I0 H0 [some (SF.mk rInt p_number), none] [], Stt.start sm ⟨h0, ini_nil rfl⟩ rfl (by simp), (JR.ifR (JT.bool (JW.or (JT.not (JT.of (JE.call (JA.cons (JE.toErr (JE.err0 T.ex_BadFraction) "BadFraction" (by decide +kernel) er0_any) JA.nil) (cj_of c_law_plain (hr.mono (by decide)) tk) T.g_law_plain T.k_law_plain))) (JW.or1 (JT.not (JT.of (JE.call (JA.cons (JE.toErr (JE.err0 T.ex_BadPolynomial) "BadPolynomial" (by decide +kernel) er0_any) JA.nil) (cj_of c_law_plain (hr.mono (by decide)) tk) T.g_law_plain T.k_law_plain)))))) (JR.ret JE.bl hx) (JR.ifR (JT.bool (JW.or (JT.not (JT.of (JE.call (JA.cons (JE.toErr (JE.err0 T.ex_BadReadings) "BadReadings" (by decide +kernel) er0_any) JA.nil) (cj_of c_law_plain (hr.mono (by decide)) tk) T.g_law_plain T.k_law_plain))) (JW.or1 (JT.not (JT.of (JE.call (JA.cons (JE.toErr (JE.err0 T.ex_NothingLeft) "NothingLeft" (by decide +kernel) er0_any) JA.nil) (cj_of c_law_plain (hr.mono (by decide)) tk) T.g_law_plain T.k_law_plain)))))) (JR.ret JE.bl hx) (JR.seqG (GL := fun _ _ _ _ => False) (J1G.tryAs0 1 (c0 := "BadFraction") (mh := (((Res.ok true).bind fun a148 => if a148 = true then (((Res.ok ("BadFraction" : Str)).bind fun a146 => (Res.ok ()).bind fun b147 => .ok (a146, b147)).bind (fun d => m_law_plain d.1)) else .ok false).bind fun r150 => .ok (Fl.rt r150))) (cv := .ref (He.ga K "TracerError")) (Ls := [("BadFraction", true)]) (cw := [some (SF.mk rInt p_number), none]) (me' := fun I136 => [MF.same I136]) (G' := fun s261 => Stt I0 H0 [some (SF.mk rInt p_number), none] []) tk (fun W' pn xe I136 tk hp => (JG.seq (J1.expr (JE.call (JA.cons (JE.var 0) (JA.cons JE.int JA.nil)) (c_Fraction_2 _ _ rfl rfl rfl rfl rfl (hr.mono (by decide)) tk) T.g_Fraction T.mk_Fraction.kp) (fun _ _ _ _ s f => ⟨s.weak (by repeat (first | exact weak_nil | apply weak_some | apply weak_none)), f⟩)) fun u143 => (JG.nil (fun _ _ _ h => (Stt.forgetAt h 0 rfl))))) (fun a oe pn hz hf => (JG.rt (JR.ret (JE.and (JE.isE hz hf T.xc_BadFraction T.kt_BadFraction_BadFraction (JE.var 1) (w_glob_at T.g_BadFraction rfl (by decide)) (.own _) T.n_isinstance) (JE.one (JE.call (JA.cons (JE.excH (ns := errNS) "BadFraction" (by decide +kernel) hz hf (JE.var 1)) JA.nil) (cj_hotE c_law_plain_vhot (roomH_suite (hr.mono (by decide))) (hot1_suite hz hf) List.mem_cons_self takes0) T.g_law_plain T.k_law_plain))) (fun _ _ _ _ _ _ => True.intro)))) (fun c h => by simpa using h) (fun y b h => by
        simp only [List.mem_cons, List.mem_nil_iff, or_false, Prod.mk.injEq] at h
        obtain ⟨rfl, rfl⟩ := h
        exact T.xm_BadFraction_TracerError) ⟨rfl, by decide, .inl T.g_TracerError⟩ hx sc_law_without.nd (hmx := (by repeat (first | exact True.intro | refine ⟨noxd_lst, ?_⟩ | refine ⟨noxd_ins, ?_⟩ | refine ⟨noxd_obj, ?_⟩)))) fun s261 => (JR.ret JE.bl hx)) hx) hx)⟩
theorem fn_law_without {P : Program} {w : World} {K : PySem.W.Frag} {mg : Str → Option Value} {base : Heap} (T : Txt P w K mg) (c_law_plain : C_law_plain P w K mg base) (c_Fraction_2 : C_Fraction_2 P w K mg base) (c_law_plain_vhot : C_law_plain_vhot P w K mg base) : FnR P w K mg base (L2N.CX P w) 38 (He.ga K "_law_without") (spF K (aCons (rp rInt) aNil) (fun d => m_law_without d.1) (rp rBl)) := by
  obtain ⟨fd, F⟩ := T.F_law_without
  exact FnOk.fr0 (ok_law_without T c_law_plain c_Fraction_2 c_law_plain_vhot F) (F.bindsN fun _ _ _ _ _ _ us hl => match us, hl with | [_], _ => rfl)
theorem sc_BadTick_init : FnScope ["self", "tick"] ["self", "tick"] (defScope s_BadTick_init) := ⟨rfl, rfl, rfl, by decide +kernel, rfl, by decide +kernel, by decide +kernel⟩
abbrev C_err_BadTick (P : Program) (w : World) (K : PySem.W.Frag) (mg : Str → Option Value) (base : Heap) : Prop := ErR1 P w K mg base "BadTick" "tick"
theorem fn_err_BadTick {P : Program} {w : World} {K : PySem.W.Frag} {mg : Str → Option Value} {base : Heap} (T : Txt P w K mg) : C_err_BadTick P w K mg base := by
  obtain ⟨fd, F⟩ := T.F_BadTick_init
  exact ⟨T.ev_BadTick, fd, ["self", "tick"], init1 F sc_BadTick_init rfl T.ev_BadTick.oex (T.ev_BadTick.no _ (by simp)) (by first | exact Or.inl rfl | exact Or.inr (Or.inl rfl) | exact Or.inr (Or.inr rfl)) (by first | exact Or.inl rfl | exact Or.inr (Or.inl rfl) | exact Or.inr (Or.inr rfl)) (by decide) (by decide), F.bindsN fun _ _ _ _ _ _ us hl => match us, hl with | [_, _], _ => rfl⟩
theorem sc_Barred_init : FnScope ["self", "tick", "weights"] ["self", "tick", "weights"] (defScope s_Barred_init) := ⟨rfl, rfl, rfl, by decide +kernel, rfl, by decide +kernel, by decide +kernel⟩
abbrev C_err_Barred (P : Program) (w : World) (K : PySem.W.Frag) (mg : Str → Option Value) (base : Heap) : Prop := ErR2 P w K mg base "Barred" "tick" "weights"
theorem fn_err_Barred {P : Program} {w : World} {K : PySem.W.Frag} {mg : Str → Option Value} {base : Heap} (T : Txt P w K mg) : C_err_Barred P w K mg base := by
  obtain ⟨fd, F⟩ := T.F_Barred_init
  exact ⟨T.ev_Barred, fd, ["self", "tick", "weights"], init2 F sc_Barred_init rfl T.ev_Barred.oex (T.ev_Barred.no _ (by simp)) (T.ev_Barred.no _ (by simp)) (by first | exact Or.inl rfl | exact Or.inr (Or.inl rfl) | exact Or.inr (Or.inr rfl)) (by first | exact Or.inl rfl | exact Or.inr (Or.inl rfl) | exact Or.inr (Or.inr rfl)) (by first | exact Or.inl rfl | exact Or.inr (Or.inl rfl) | exact Or.inr (Or.inr rfl)) (by decide) (by decide) (by decide) (by decide), F.bindsN fun _ _ _ _ _ _ us hl => match us, hl with | [_, _, _], _ => rfl⟩
theorem sc_law_raised : FnScope ["_law_number", "_law_caught", "_law_e"] ["_law_number"] (defScope s_law_raised) := ⟨rfl, rfl, rfl, by decide +kernel, rfl, by decide +kernel, by decide +kernel⟩
def m_law_raised (p_number : Int) : Res Bool :=
  ((Res.ok (0 : Int)).bind fun v278 => (((tryG (((((Res.ok p_number).bind fun y281 => Res.err ⟨"BadTick", [("tick", Pay.int y281)]⟩)).bind fun r282 => .ok (Fl.rt r282)) : Res (Fl Int Unit Bool)) [("BadTick", true)] (fun ee => pay1 "tick" dInt (fun y283 => (((Res.ok v278).bind fun a290 => (((Res.ok true).bind fun a288 => (Res.ok ()).bind fun b289 => .ok (a288, b289)).bind (fun d => .ok (if d.1 = true then 1 else 0))).bind fun b291 => .ok (a290 + b291)).bind fun v286 => (Res.ok (Fl.nx v286)))) ee.pay)).bind Fl.get).bind fun s292 => (((tryG (((((Res.ok p_number).bind fun y296 => (Res.ok (0 : Int)).bind fun y297 => Res.err ⟨"Barred", [("weights", Pay.int y297), ("tick", Pay.int y296)]⟩)).bind fun r298 => .ok (Fl.rt r298)) : Res (Fl Int Unit Bool)) [("Barred", true)] (fun ee => pay2 "weights" "tick" dInt dInt (fun y299 y302 => (((Res.ok s292).bind fun a310 => ((((Res.ok y299).bind fun a306 => (Res.ok p_number).bind fun b307 => .ok (decide (a306 = b307))).bind fun a308 => (Res.ok ()).bind fun b309 => .ok (a308, b309)).bind (fun d => .ok (if d.1 = true then 1 else 0))).bind fun b311 => .ok (a310 + b311)).bind fun v305 => (Res.ok (Fl.nx v305)))) ee.pay)).bind Fl.get).bind fun s312 => ((Res.ok s312).bind fun a313 => (Res.ok (2 : Int)).bind fun b314 => .ok (decide (a313 = b314))))))
abbrev C_law_raised (P : Program) (w : World) (K : PySem.W.Frag) (mg : Str → Option Value) (base : Heap) : Prop := FnR P w K mg base (L2N.CX P w) 3 (He.ga K "_law_raised") (spF K (aCons (rp rInt) aNil) (fun d => m_law_raised d.1) (rp rBl))
theorem ok_law_raised {P : Program} {w : World} {K : PySem.W.Frag} {mg : Str → Option Value} {base : Heap} (T : Txt P w K mg) (c_err_BadTick : C_err_BadTick P w K mg base) (c_err_Barred : C_err_Barred P w K mg base) {fd : FuncData} (F : FunD K "_law_raised" "_law_raised" (defArgs s_law_raised) (defBody s_law_raised) (defScope s_law_raised) [] [] (He.ga K "_law_raised") fd) : FnOk P w K mg base (L2N.CX P w) 3 (He.ga K "_law_raised") fd ["_law_number"] (spF K (aCons (rp rInt) aNil) (fun d => m_law_raised d.1) (rp rBl)) := by
  refine FunD.fn (k := 2) (N := ["_law_number", "_law_caught", "_law_e"]) (ps := ["_law_number"]) F sc_law_raised (fun I H vs d h => ?_) (fun cdv A outer s I0 H0 E vs d hr sm h => ?_)
  · obtain ⟨v0, _, rfl, h0, rfl⟩ := h; rfl
  obtain ⟨v0, _, rfl, h0, rfl⟩ := h
  have hx : ∀ {ctx : List (Option SF)} {mem : List MF} (I H : Hp) (σ : St) (d : Option Addr), Stt I0 H0 ctx mem I H σ → Fr H0 d → bK I0 H0 I H σ d := fun _ _ _ _ s f => ⟨s.fm, f⟩
  have tk : L2N.Takes (bx P w K mg base ["_law_number", "_law_caught", "_law_e"] "_law_raised" (defScope s_law_raised) (He.ga K "_law_raised") cdv A outer s H0 E) (bW E) := L2N.takes_of rfl rfl rfl rfl
  have hp : PsO9 P w (bx P w K mg base ["_law_number", "_law_caught", "_law_e"] "_law_raised" (defScope s_law_raised) (He.ga K "_law_raised") cdv A outer s H0 E) := passes_of rfl
  obtain ⟨p_number, _⟩ := d
  exact ⟨Stt I0 H0 [some (SF.mk rInt p_number), none, none] [], Stt.start sm ⟨h0, ini_nil rfl⟩ rfl (by simp), (JR.seq (J1.cx (c' := fun v278 => [some (SF.mk rInt p_number), some (SF.mk rInt v278), none]) (J1.set 1 JE.int hx sc_law_raised.nd)) fun v278 => (JR.seq (J1.ofG (rr := fun _ _ _ (_ : Bool) => True) (J1G.tryAs1 2 "tick" dInt (c0 := "BadTick") (mh := fun y283 => (((Res.ok v278).bind fun a290 => (((Res.ok true).bind fun a288 => (Res.ok ()).bind fun b289 => .ok (a288, b289)).bind (fun d => .ok (if d.1 = true then 1 else 0))).bind fun b291 => .ok (a290 + b291)).bind fun v286 => (Res.ok (Fl.nx v286)))) (cv := .ref (He.ga K "TracerError")) (Ls := [("BadTick", true)]) (cw := [some (SF.mk rInt p_number), some (SF.mk rInt v278), none]) (me' := fun I279 => [MF.same I279]) (G' := fun s292 => Stt I0 H0 [some (SF.mk rInt p_number), some (SF.mk rInt s292), none] []) tk (fun W' pn xe I279 tk hp => (JG.rt (JR.raise1 (pay := Pay.int) rfl tk c_err_BadTick (hr.mono (by decide)) (JE.var 0) pay_int (fun _ _ _ _ s f => ⟨s.weak (by repeat (first | exact weak_nil | apply weak_some | apply weak_none)), f⟩)))) (fun a oe dd pn p284 y283 hz hf hd285 => (JG.seq (J1.cx (c' := fun v286 => [some (SF.mk rInt p_number), some (SF.mk rInt v286), some (SF.mk (rExc a) ())]) (J1.set 1 (JE.bin (JE.var 1) (JE.callTy (JA.cons (JE.isV 0 hz hf T.xc_BadTick T.kt_BadTick_BadTick (JE.var 2) (w_glob_at T.g_BadTick rfl (by decide)) (.own _) T.n_isinstance) JA.nil) cj_intB T.n_int boot_int) opj_add) (fun _ _ _ _ _ _ => True.intro) sc_law_raised.nd)) fun v286 => (JG.nil (fun _ _ _ h => (Stt.weak (Stt.unset (Stt.forgetAt h 0 rfl) 2 (u := none)) (weak_some (weak_some (weak_none weak_nil)))))))) (fun c h => by simpa using h) (fun y b h => by
        simp only [List.mem_cons, List.mem_nil_iff, or_false, Prod.mk.injEq] at h
        obtain ⟨rfl, rfl⟩ := h
        exact T.xm_BadTick_TracerError) ⟨rfl, by decide, .inl T.g_TracerError⟩ hx sc_law_raised.nd (hmx := (by repeat (first | exact True.intro | refine ⟨noxd_lst, ?_⟩ | refine ⟨noxd_ins, ?_⟩ | refine ⟨noxd_obj, ?_⟩))))) fun s292 => (JR.seq (J1.ofG (rr := fun _ _ _ (_ : Bool) => True) (J1G.tryAs2 2 "tick" "weights" dInt dInt (c0 := "Barred") (cv := .ref (He.ga K "Barred")) (Ls := [("Barred", true)]) (cw := [some (SF.mk rInt p_number), some (SF.mk rInt s292), none]) (me' := fun I293 => [MF.same I293]) (G' := fun s312 => Stt I0 H0 [some (SF.mk rInt p_number), some (SF.mk rInt s312), none] []) tk (by exact fun W' pn xe I293 tk hp => (JG.rt (JR.raise2 (pay := Pay.int) (pay2 := Pay.int) rfl tk c_err_Barred (hr.mono (by decide)) (JE.var 0) JE.int pay_int pay_int (fun _ _ _ _ s f => ⟨s.weak (by repeat (first | exact weak_nil | apply weak_some | apply weak_none)), f⟩)))) (by exact fun a oe dd pn p300 p303 y299 y302 hz hf hd301 hd304 => (JG.seq (J1.cx (c' := fun v305 => [some (SF.mk rInt p_number), some (SF.mk rInt v305), some (SF.mk (rExc a) ())]) (J1.set 1 (JE.bin (JE.var 1) (JE.callTy (JA.cons (JE.cmp (JE.xfld 2 0 (r := rInt) (dp := dInt) hz hf T.ev_Barred.xf (T.ev_Barred.no _ (by simp)) hd301 rfl (JE.var 2)) (JE.var 0) opj_eq) JA.nil) cj_intB T.n_int boot_int) opj_add) (fun _ _ _ _ _ _ => True.intro) sc_law_raised.nd)) fun v305 => (JG.nil (fun _ _ _ h => (Stt.weak (Stt.unset (Stt.forgetAt h 0 rfl) 2 (u := none)) (weak_some (weak_some (weak_none weak_nil)))))))) (fun c h => by simpa using h) (fun y b h => by
        simp only [List.mem_cons, List.mem_nil_iff, or_false, Prod.mk.injEq] at h
        obtain ⟨rfl, rfl⟩ := h
        exact T.xm_Barred_Barred) ⟨rfl, by decide, .inl T.g_Barred⟩ hx sc_law_raised.nd (hmx := (by repeat (first | exact True.intro | refine ⟨noxd_lst, ?_⟩ | refine ⟨noxd_ins, ?_⟩ | refine ⟨noxd_obj, ?_⟩))))) fun s312 => (JR.ret (JE.cmp (JE.var 1) JE.int opj_eq) hx))))⟩
theorem fn_law_raised {P : Program} {w : World} {K : PySem.W.Frag} {mg : Str → Option Value} {base : Heap} (T : Txt P w K mg) (c_err_BadTick : C_err_BadTick P w K mg base) (c_err_Barred : C_err_Barred P w K mg base) : FnR P w K mg base (L2N.CX P w) 3 (He.ga K "_law_raised") (spF K (aCons (rp rInt) aNil) (fun d => m_law_raised d.1) (rp rBl)) := by
  obtain ⟨fd, F⟩ := T.F_law_raised
  exact FnOk.fr0 (ok_law_raised T c_err_BadTick c_err_Barred F) (F.bindsN fun _ _ _ _ _ _ us hl => match us, hl with | [_], _ => rfl)
theorem sc_BadShare_init : FnScope ["self", "share"] ["self", "share"] (defScope s_BadShare_init) := ⟨rfl, rfl, rfl, by decide +kernel, rfl, by decide +kernel, by decide +kernel⟩
abbrev C_err_BadShare (P : Program) (w : World) (K : PySem.W.Frag) (mg : Str → Option Value) (base : Heap) : Prop := ErR1 P w K mg base "BadShare" "share"
theorem fn_err_BadShare {P : Program} {w : World} {K : PySem.W.Frag} {mg : Str → Option Value} {base : Heap} (T : Txt P w K mg) : C_err_BadShare P w K mg base := by
  obtain ⟨fd, F⟩ := T.F_BadShare_init
  exact ⟨T.ev_BadShare, fd, ["self", "share"], init1 F sc_BadShare_init rfl T.ev_BadShare.oex (T.ev_BadShare.no _ (by simp)) (by first | exact Or.inl rfl | exact Or.inr (Or.inl rfl) | exact Or.inr (Or.inr rfl)) (by first | exact Or.inl rfl | exact Or.inr (Or.inl rfl) | exact Or.inr (Or.inr rfl)) (by decide) (by decide), F.bindsN fun _ _ _ _ _ _ us hl => match us, hl with | [_, _], _ => rfl⟩
theorem sc_BadRoom_init : FnScope ["self", "room"] ["self", "room"] (defScope s_BadRoom_init) := ⟨rfl, rfl, rfl, by decide +kernel, rfl, by decide +kernel, by decide +kernel⟩
abbrev C_err_BadRoom (P : Program) (w : World) (K : PySem.W.Frag) (mg : Str → Option Value) (base : Heap) : Prop := ErR1 P w K mg base "BadRoom" "room"
theorem fn_err_BadRoom {P : Program} {w : World} {K : PySem.W.Frag} {mg : Str → Option Value} {base : Heap} (T : Txt P w K mg) : C_err_BadRoom P w K mg base := by
  obtain ⟨fd, F⟩ := T.F_BadRoom_init
  exact ⟨T.ev_BadRoom, fd, ["self", "room"], init1 F sc_BadRoom_init rfl T.ev_BadRoom.oex (T.ev_BadRoom.no _ (by simp)) (by first | exact Or.inl rfl | exact Or.inr (Or.inl rfl) | exact Or.inr (Or.inr rfl)) (by first | exact Or.inl rfl | exact Or.inr (Or.inl rfl) | exact Or.inr (Or.inr rfl)) (by decide) (by decide), F.bindsN fun _ _ _ _ _ _ us hl => match us, hl with | [_, _], _ => rfl⟩
theorem sc_BadLine_init : FnScope ["self", "place"] ["self", "place"] (defScope s_BadLine_init) := ⟨rfl, rfl, rfl, by decide +kernel, rfl, by decide +kernel, by decide +kernel⟩
abbrev C_err_BadLine (P : Program) (w : World) (K : PySem.W.Frag) (mg : Str → Option Value) (base : Heap) : Prop := ErR1 P w K mg base "BadLine" "place"
theorem fn_err_BadLine {P : Program} {w : World} {K : PySem.W.Frag} {mg : Str → Option Value} {base : Heap} (T : Txt P w K mg) : C_err_BadLine P w K mg base := by
  obtain ⟨fd, F⟩ := T.F_BadLine_init
  exact ⟨T.ev_BadLine, fd, ["self", "place"], init1 F sc_BadLine_init rfl T.ev_BadLine.oex (T.ev_BadLine.no _ (by simp)) (by first | exact Or.inl rfl | exact Or.inr (Or.inl rfl) | exact Or.inr (Or.inr rfl)) (by first | exact Or.inl rfl | exact Or.inr (Or.inl rfl) | exact Or.inr (Or.inr rfl)) (by decide) (by decide), F.bindsN fun _ _ _ _ _ _ us hl => match us, hl with | [_, _], _ => rfl⟩
theorem sc_BadText_init : FnScope ["self", "line", "column"] ["self", "line", "column"] (defScope s_BadText_init) := ⟨rfl, rfl, rfl, by decide +kernel, rfl, by decide +kernel, by decide +kernel⟩
abbrev C_err_BadText (P : Program) (w : World) (K : PySem.W.Frag) (mg : Str → Option Value) (base : Heap) : Prop := ErR2 P w K mg base "BadText" "line" "column"
theorem fn_err_BadText {P : Program} {w : World} {K : PySem.W.Frag} {mg : Str → Option Value} {base : Heap} (T : Txt P w K mg) : C_err_BadText P w K mg base := by
  obtain ⟨fd, F⟩ := T.F_BadText_init
  exact ⟨T.ev_BadText, fd, ["self", "line", "column"], init2 F sc_BadText_init rfl T.ev_BadText.oex (T.ev_BadText.no _ (by simp)) (T.ev_BadText.no _ (by simp)) (by first | exact Or.inl rfl | exact Or.inr (Or.inl rfl) | exact Or.inr (Or.inr rfl)) (by first | exact Or.inl rfl | exact Or.inr (Or.inl rfl) | exact Or.inr (Or.inr rfl)) (by first | exact Or.inl rfl | exact Or.inr (Or.inl rfl) | exact Or.inr (Or.inr rfl)) (by decide) (by decide) (by decide) (by decide), F.bindsN fun _ _ _ _ _ _ us hl => match us, hl with | [_, _, _], _ => rfl⟩
theorem sc_FullReader_init : FnScope ["self", "most"] ["self", "most"] (defScope s_FullReader_init) := ⟨rfl, rfl, rfl, by decide +kernel, rfl, by decide +kernel, by decide +kernel⟩
abbrev C_err_FullReader (P : Program) (w : World) (K : PySem.W.Frag) (mg : Str → Option Value) (base : Heap) : Prop := ErR1 P w K mg base "FullReader" "most"
theorem fn_err_FullReader {P : Program} {w : World} {K : PySem.W.Frag} {mg : Str → Option Value} {base : Heap} (T : Txt P w K mg) : C_err_FullReader P w K mg base := by
  obtain ⟨fd, F⟩ := T.F_FullReader_init
  exact ⟨T.ev_FullReader, fd, ["self", "most"], init1 F sc_FullReader_init rfl T.ev_FullReader.oex (T.ev_FullReader.no _ (by simp)) (by first | exact Or.inl rfl | exact Or.inr (Or.inl rfl) | exact Or.inr (Or.inr rfl)) (by first | exact Or.inl rfl | exact Or.inr (Or.inl rfl) | exact Or.inr (Or.inr rfl)) (by decide) (by decide), F.bindsN fun _ _ _ _ _ _ us hl => match us, hl with | [_, _], _ => rfl⟩
theorem sc_Misfit_init : FnScope ["self", "tick"] ["self", "tick"] (defScope s_Misfit_init) := ⟨rfl, rfl, rfl, by decide +kernel, rfl, by decide +kernel, by decide +kernel⟩
abbrev C_err_Misfit (P : Program) (w : World) (K : PySem.W.Frag) (mg : Str → Option Value) (base : Heap) : Prop := ErR1 P w K mg base "Misfit" "tick"
theorem fn_err_Misfit {P : Program} {w : World} {K : PySem.W.Frag} {mg : Str → Option Value} {base : Heap} (T : Txt P w K mg) : C_err_Misfit P w K mg base := by
  obtain ⟨fd, F⟩ := T.F_Misfit_init
  exact ⟨T.ev_Misfit, fd, ["self", "tick"], init1 F sc_Misfit_init rfl T.ev_Misfit.oex (T.ev_Misfit.no _ (by simp)) (by first | exact Or.inl rfl | exact Or.inr (Or.inl rfl) | exact Or.inr (Or.inr rfl)) (by first | exact Or.inl rfl | exact Or.inr (Or.inl rfl) | exact Or.inr (Or.inr rfl)) (by decide) (by decide), F.bindsN fun _ _ _ _ _ _ us hl => match us, hl with | [_, _], _ => rfl⟩
theorem sc_NoWeb_init : FnScope ["self", "tick"] ["self", "tick"] (defScope s_NoWeb_init) := ⟨rfl, rfl, rfl, by decide +kernel, rfl, by decide +kernel, by decide +kernel⟩
abbrev C_err_NoWeb (P : Program) (w : World) (K : PySem.W.Frag) (mg : Str → Option Value) (base : Heap) : Prop := ErR1 P w K mg base "NoWeb" "tick"
theorem fn_err_NoWeb {P : Program} {w : World} {K : PySem.W.Frag} {mg : Str → Option Value} {base : Heap} (T : Txt P w K mg) : C_err_NoWeb P w K mg base := by
  obtain ⟨fd, F⟩ := T.F_NoWeb_init
  exact ⟨T.ev_NoWeb, fd, ["self", "tick"], init1 F sc_NoWeb_init rfl T.ev_NoWeb.oex (T.ev_NoWeb.no _ (by simp)) (by first | exact Or.inl rfl | exact Or.inr (Or.inl rfl) | exact Or.inr (Or.inr rfl)) (by first | exact Or.inl rfl | exact Or.inr (Or.inl rfl) | exact Or.inr (Or.inr rfl)) (by decide) (by decide), F.bindsN fun _ _ _ _ _ _ us hl => match us, hl with | [_, _], _ => rfl⟩
theorem sc_law_numbers : FnScope ["_law_first", "_law_second", "_law_a", "_law_b", "_law_c", "_law_d"] ["_law_first", "_law_second"] (defScope s_law_numbers) := ⟨rfl, rfl, rfl, by decide +kernel, rfl, by decide +kernel, by decide +kernel⟩
def m_law_numbers (p_first : Int) (p_second : Int) : Res Bool :=
  ((Res.ok p_first).bind fun v316 => ((Res.ok p_second).bind fun v317 => ((Res.ok p_first).bind fun v318 => ((Res.ok p_second).bind fun v319 => ((((Res.ok v316).bind fun a334 => ((Res.ok v317).bind fun a331 => ((Res.ok v318).bind fun a328 => ((Res.ok v319).bind fun a325 => (Res.ok []).bind fun b326 => .ok (a325 :: b326)).bind fun b329 => .ok (a328 :: b329)).bind fun b332 => .ok (a331 :: b332)).bind fun b335 => .ok (a334 :: b335)).bind fun a348 => ((Res.ok p_first).bind fun a346 => ((Res.ok p_second).bind fun a343 => ((Res.ok p_first).bind fun a340 => ((Res.ok p_second).bind fun a337 => (Res.ok []).bind fun b338 => .ok (a337 :: b338)).bind fun b341 => .ok (a340 :: b341)).bind fun b344 => .ok (a343 :: b344)).bind fun b347 => .ok (a346 :: b347)).bind fun b349 => .ok (!decide (a348 = b349))).bind fun x350 => if x350 = true then (Res.ok false) else (((((((Res.ok v316).bind fun _ => .ok ("BadShare" : Str)).bind fun a353 => (Res.ok ()).bind fun b354 => .ok (a353, b354)).bind (fun d => m_law_plain d.1)).bind fun a355 => .ok (!a355)).bind fun a370 => if a370 = true then .ok true else ((((((Res.ok v317).bind fun _ => .ok ("BadTick" : Str)).bind fun a357 => (Res.ok ()).bind fun b358 => .ok (a357, b358)).bind (fun d => m_law_plain d.1)).bind fun a359 => .ok (!a359)).bind fun a369 => if a369 = true then .ok true else ((((((Res.ok v318).bind fun _ => .ok ("BadRoom" : Str)).bind fun a361 => (Res.ok ()).bind fun b362 => .ok (a361, b362)).bind (fun d => m_law_plain d.1)).bind fun a363 => .ok (!a363)).bind fun a368 => if a368 = true then .ok true else (((((Res.ok v319).bind fun _ => .ok ("BadLine" : Str)).bind fun a365 => (Res.ok ()).bind fun b366 => .ok (a365, b366)).bind (fun d => m_law_plain d.1)).bind fun a367 => .ok (!a367))))).bind fun x371 => if x371 = true then (Res.ok false) else (((Res.ok p_first).bind fun a374 => (Res.ok p_second).bind fun b375 => .ok (a374, b375)).bind fun v373 => ((Res.ok p_second).bind fun v376 => ((Res.ok p_first).bind fun v377 => ((Res.ok p_second).bind fun v378 => (((((Res.ok v373).bind fun a379 => .ok a379.1).bind fun a397 => (((Res.ok v373).bind fun a380 => .ok a380.2).bind fun a394 => ((Res.ok v376).bind fun a391 => ((Res.ok v377).bind fun a388 => ((Res.ok v378).bind fun a385 => (Res.ok []).bind fun b386 => .ok (a385 :: b386)).bind fun b389 => .ok (a388 :: b389)).bind fun b392 => .ok (a391 :: b392)).bind fun b395 => .ok (a394 :: b395)).bind fun b398 => .ok (a397 :: b398)).bind fun a414 => ((Res.ok p_first).bind fun a412 => ((Res.ok p_second).bind fun a409 => ((Res.ok p_second).bind fun a406 => ((Res.ok p_first).bind fun a403 => ((Res.ok p_second).bind fun a400 => (Res.ok []).bind fun b401 => .ok (a400 :: b401)).bind fun b404 => .ok (a403 :: b404)).bind fun b407 => .ok (a406 :: b407)).bind fun b410 => .ok (a409 :: b410)).bind fun b413 => .ok (a412 :: b413)).bind fun b415 => .ok (!decide (a414 = b415))).bind fun x416 => if x416 = true then (Res.ok false) else (((((Res.ok v373).bind fun _ => .ok ("BadText" : Str)).bind fun a419 => (Res.ok ()).bind fun b420 => .ok (a419, b420)).bind (fun d => m_law_plain d.1)).bind fun a432 => if a432 = true then (((((Res.ok v376).bind fun _ => .ok ("FullReader" : Str)).bind fun a422 => (Res.ok ()).bind fun b423 => .ok (a422, b423)).bind (fun d => m_law_plain d.1)).bind fun a431 => if a431 = true then (((((Res.ok v377).bind fun _ => .ok ("Misfit" : Str)).bind fun a425 => (Res.ok ()).bind fun b426 => .ok (a425, b426)).bind (fun d => m_law_plain d.1)).bind fun a430 => if a430 = true then ((((Res.ok v378).bind fun _ => .ok ("NoWeb" : Str)).bind fun a428 => (Res.ok ()).bind fun b429 => .ok (a428, b429)).bind (fun d => m_law_plain d.1)) else .ok false) else .ok false) else .ok false))))))))))))
abbrev C_law_numbers (P : Program) (w : World) (K : PySem.W.Frag) (mg : Str → Option Value) (base : Heap) : Prop := FnR P w K mg base (L2N.CX P w) 3 (He.ga K "_law_numbers") (spF K (aCons (rp rInt) (aCons (rp rInt) aNil)) (fun d => m_law_numbers d.1 d.2.1) (rp rBl))
theorem ok_law_numbers {P : Program} {w : World} {K : PySem.W.Frag} {mg : Str → Option Value} {base : Heap} (T : Txt P w K mg) (c_err_BadShare : C_err_BadShare P w K mg base) (c_err_BadTick : C_err_BadTick P w K mg base) (c_err_BadRoom : C_err_BadRoom P w K mg base) (c_err_BadLine : C_err_BadLine P w K mg base) (c_law_plain : C_law_plain P w K mg base) (c_err_BadText : C_err_BadText P w K mg base) (c_err_FullReader : C_err_FullReader P w K mg base) (c_err_Misfit : C_err_Misfit P w K mg base) (c_err_NoWeb : C_err_NoWeb P w K mg base) {fd : FuncData} (F : FunD K "_law_numbers" "_law_numbers" (defArgs s_law_numbers) (defBody s_law_numbers) (defScope s_law_numbers) [] [] (He.ga K "_law_numbers") fd) : FnOk P w K mg base (L2N.CX P w) 3 (He.ga K "_law_numbers") fd ["_law_first", "_law_second"] (spF K (aCons (rp rInt) (aCons (rp rInt) aNil)) (fun d => m_law_numbers d.1 d.2.1) (rp rBl)) := by
  refine FunD.fn (k := 2) (N := ["_law_first", "_law_second", "_law_a", "_law_b", "_law_c", "_law_d"]) (ps := ["_law_first", "_law_second"]) F sc_law_numbers (fun I H vs d h => ?_) (fun cdv A outer s I0 H0 E vs d hr sm h => ?_)
  · obtain ⟨v0, _, rfl, h0, v1, _, rfl, h1, rfl⟩ := h; rfl
  obtain ⟨v0, _, rfl, h0, v1, _, rfl, h1, rfl⟩ := h
  have hx : ∀ {ctx : List (Option SF)} {mem : List MF} (I H : Hp) (σ : St) (d : Option Addr), Stt I0 H0 ctx mem I H σ → Fr H0 d → bK I0 H0 I H σ d := fun _ _ _ _ s f => ⟨s.fm, f⟩
  have tk : L2N.Takes (bx P w K mg base ["_law_first", "_law_second", "_law_a", "_law_b", "_law_c", "_law_d"] "_law_numbers" (defScope s_law_numbers) (He.ga K "_law_numbers") cdv A outer s H0 E) (bW E) := L2N.takes_of rfl rfl rfl rfl
  obtain ⟨p_first, p_second, _⟩ := d
  exact ⟨Stt I0 H0 [some (SF.mk rInt p_first), some (SF.mk rInt p_second), none, none, none, none] [], Stt.start sm ⟨h0, h1, ini_nil rfl⟩ rfl (by simp), (JR.seq (J1.cx (c' := fun v316 => [some (SF.mk rInt p_first), some (SF.mk rInt p_second), some (SF.mk (rEr1 K "BadShare" "share" rInt) v316), none, none, none]) (J1.set 2 (JE.err1 c_err_BadShare (hr.mono (by decide)) (JE.var 0)) hx sc_law_numbers.nd)) fun v316 => (JR.seq (J1.cx (c' := fun v317 => [some (SF.mk rInt p_first), some (SF.mk rInt p_second), some (SF.mk (rEr1 K "BadShare" "share" rInt) v316), some (SF.mk (rEr1 K "BadTick" "tick" rInt) v317), none, none]) (J1.set 3 (JE.err1 c_err_BadTick (hr.mono (by decide)) (JE.var 1)) hx sc_law_numbers.nd)) fun v317 => (JR.seq (J1.cx (c' := fun v318 => [some (SF.mk rInt p_first), some (SF.mk rInt p_second), some (SF.mk (rEr1 K "BadShare" "share" rInt) v316), some (SF.mk (rEr1 K "BadTick" "tick" rInt) v317), some (SF.mk (rEr1 K "BadRoom" "room" rInt) v318), none]) (J1.set 4 (JE.err1 c_err_BadRoom (hr.mono (by decide)) (JE.var 0)) hx sc_law_numbers.nd)) fun v318 => (JR.seq (J1.cx (c' := fun v319 => [some (SF.mk rInt p_first), some (SF.mk rInt p_second), some (SF.mk (rEr1 K "BadShare" "share" rInt) v316), some (SF.mk (rEr1 K "BadTick" "tick" rInt) v317), some (SF.mk (rEr1 K "BadRoom" "room" rInt) v318), some (SF.mk (rEr1 K "BadLine" "place" rInt) v319)]) (J1.set 5 (JE.err1 c_err_BadLine (hr.mono (by decide)) (JE.var 1)) hx sc_law_numbers.nd)) fun v319 => (JR.ifR (JT.cmp (JE.rd (JE.ofM (JM.lst (r := rInt) (JA.consL (JE.erF1 T.ev_BadShare.xf (T.ev_BadShare.no _ (by simp)) (JE.var 2)) (JA.consL (JE.erF1 T.ev_BadTick.xf (T.ev_BadTick.no _ (by simp)) (JE.var 3)) (JA.consL (JE.erF1 T.ev_BadRoom.xf (T.ev_BadRoom.no _ (by simp)) (JE.var 4)) (JA.consL (JE.erF1 T.ev_BadLine.xf (T.ev_BadLine.no _ (by simp)) (JE.var 5)) JA.nilL))))))) (JE.rd (JE.ofM (JM.lst (r := rInt) (JA.consL (JE.var 0) (JA.consL (JE.var 1) (JA.consL (JE.var 0) (JA.consL (JE.var 1) JA.nilL))))))) (opj_neL hr.units)) (JR.ret JE.bl hx) (JR.ifR (JT.bool (JW.or (JT.not (JT.of (JE.call (JA.cons (JE.toErr (JE.var 2) "BadShare" (by decide +kernel) er1_any) JA.nil) (cj_of c_law_plain (hr.mono (by decide)) tk) T.g_law_plain T.k_law_plain))) (JW.or (JT.not (JT.of (JE.call (JA.cons (JE.toErr (JE.var 3) "BadTick" (by decide +kernel) er1_any) JA.nil) (cj_of c_law_plain (hr.mono (by decide)) tk) T.g_law_plain T.k_law_plain))) (JW.or (JT.not (JT.of (JE.call (JA.cons (JE.toErr (JE.var 4) "BadRoom" (by decide +kernel) er1_any) JA.nil) (cj_of c_law_plain (hr.mono (by decide)) tk) T.g_law_plain T.k_law_plain))) (JW.or1 (JT.not (JT.of (JE.call (JA.cons (JE.toErr (JE.var 5) "BadLine" (by decide +kernel) er1_any) JA.nil) (cj_of c_law_plain (hr.mono (by decide)) tk) T.g_law_plain T.k_law_plain)))))))) (JR.ret JE.bl hx) (JR.seq (J1.cx (c' := fun v373 => [some (SF.mk rInt p_first), some (SF.mk rInt p_second), some (SF.mk (rEr2 K "BadText" "line" "column" rInt rInt) v373), some (SF.mk (rEr1 K "BadTick" "tick" rInt) v317), some (SF.mk (rEr1 K "BadRoom" "room" rInt) v318), some (SF.mk (rEr1 K "BadLine" "place" rInt) v319)]) (J1.set 2 (JE.err2 c_err_BadText (hr.mono (by decide)) (JE.var 0) (JE.var 1)) hx sc_law_numbers.nd)) fun v373 => (JR.seq (J1.cx (c' := fun v376 => [some (SF.mk rInt p_first), some (SF.mk rInt p_second), some (SF.mk (rEr2 K "BadText" "line" "column" rInt rInt) v373), some (SF.mk (rEr1 K "FullReader" "most" rInt) v376), some (SF.mk (rEr1 K "BadRoom" "room" rInt) v318), some (SF.mk (rEr1 K "BadLine" "place" rInt) v319)]) (J1.set 3 (JE.err1 c_err_FullReader (hr.mono (by decide)) (JE.var 1)) hx sc_law_numbers.nd)) fun v376 => (JR.seq (J1.cx (c' := fun v377 => [some (SF.mk rInt p_first), some (SF.mk rInt p_second), some (SF.mk (rEr2 K "BadText" "line" "column" rInt rInt) v373), some (SF.mk (rEr1 K "FullReader" "most" rInt) v376), some (SF.mk (rEr1 K "Misfit" "tick" rInt) v377), some (SF.mk (rEr1 K "BadLine" "place" rInt) v319)]) (J1.set 4 (JE.err1 c_err_Misfit (hr.mono (by decide)) (JE.var 0)) hx sc_law_numbers.nd)) fun v377 => (JR.seq (J1.cx (c' := fun v378 => [some (SF.mk rInt p_first), some (SF.mk rInt p_second), some (SF.mk (rEr2 K "BadText" "line" "column" rInt rInt) v373), some (SF.mk (rEr1 K "FullReader" "most" rInt) v376), some (SF.mk (rEr1 K "Misfit" "tick" rInt) v377), some (SF.mk (rEr1 K "NoWeb" "tick" rInt) v378)]) (J1.set 5 (JE.err1 c_err_NoWeb (hr.mono (by decide)) (JE.var 1)) hx sc_law_numbers.nd)) fun v378 => (JR.ifR (JT.cmp (JE.rd (JE.ofM (JM.lst (r := rInt) (JA.consL (JE.erF2a T.ev_BadText.xf (T.ev_BadText.no _ (by simp)) (JE.var 2)) (JA.consL (JE.erF2b T.ev_BadText.xf (T.ev_BadText.no _ (by simp)) (JE.var 2)) (JA.consL (JE.erF1 T.ev_FullReader.xf (T.ev_FullReader.no _ (by simp)) (JE.var 3)) (JA.consL (JE.erF1 T.ev_Misfit.xf (T.ev_Misfit.no _ (by simp)) (JE.var 4)) (JA.consL (JE.erF1 T.ev_NoWeb.xf (T.ev_NoWeb.no _ (by simp)) (JE.var 5)) JA.nilL)))))))) (JE.rd (JE.ofM (JM.lst (r := rInt) (JA.consL (JE.var 0) (JA.consL (JE.var 1) (JA.consL (JE.var 1) (JA.consL (JE.var 0) (JA.consL (JE.var 1) JA.nilL)))))))) (opj_neL hr.units)) (JR.ret JE.bl hx) (JR.ret (JE.and (JE.call (JA.cons (JE.toErr (JE.var 2) "BadText" (by decide +kernel) er2_any) JA.nil) (cj_of c_law_plain (hr.mono (by decide)) tk) T.g_law_plain T.k_law_plain) (JE.and (JE.call (JA.cons (JE.toErr (JE.var 3) "FullReader" (by decide +kernel) er1_any) JA.nil) (cj_of c_law_plain (hr.mono (by decide)) tk) T.g_law_plain T.k_law_plain) (JE.and (JE.call (JA.cons (JE.toErr (JE.var 4) "Misfit" (by decide +kernel) er1_any) JA.nil) (cj_of c_law_plain (hr.mono (by decide)) tk) T.g_law_plain T.k_law_plain) (JE.one (JE.call (JA.cons (JE.toErr (JE.var 5) "NoWeb" (by decide +kernel) er1_any) JA.nil) (cj_of c_law_plain (hr.mono (by decide)) tk) T.g_law_plain T.k_law_plain))))) hx) hx))))) hx) hx)))))⟩
theorem fn_law_numbers {P : Program} {w : World} {K : PySem.W.Frag} {mg : Str → Option Value} {base : Heap} (T : Txt P w K mg) (c_err_BadShare : C_err_BadShare P w K mg base) (c_err_BadTick : C_err_BadTick P w K mg base) (c_err_BadRoom : C_err_BadRoom P w K mg base) (c_err_BadLine : C_err_BadLine P w K mg base) (c_law_plain : C_law_plain P w K mg base) (c_err_BadText : C_err_BadText P w K mg base) (c_err_FullReader : C_err_FullReader P w K mg base) (c_err_Misfit : C_err_Misfit P w K mg base) (c_err_NoWeb : C_err_NoWeb P w K mg base) : FnR P w K mg base (L2N.CX P w) 3 (He.ga K "_law_numbers") (spF K (aCons (rp rInt) (aCons (rp rInt) aNil)) (fun d => m_law_numbers d.1 d.2.1) (rp rBl)) := by
  obtain ⟨fd, F⟩ := T.F_law_numbers
  exact FnOk.fr0 (ok_law_numbers T c_err_BadShare c_err_BadTick c_err_BadRoom c_err_BadLine c_law_plain c_err_BadText c_err_FullReader c_err_Misfit c_err_NoWeb F) (F.bindsN fun _ _ _ _ _ _ us hl => match us, hl with | [_, _], _ => rfl)
theorem sc_BadWeb_init : FnScope ["self", "reason"] ["self", "reason"] (defScope s_BadWeb_init) := ⟨rfl, rfl, rfl, by decide +kernel, rfl, by decide +kernel, by decide +kernel⟩
abbrev C_err_BadWeb (P : Program) (w : World) (K : PySem.W.Frag) (mg : Str → Option Value) (base : Heap) : Prop := ErR1 P w K mg base "BadWeb" "reason"
theorem fn_err_BadWeb {P : Program} {w : World} {K : PySem.W.Frag} {mg : Str → Option Value} {base : Heap} (T : Txt P w K mg) : C_err_BadWeb P w K mg base := by
  obtain ⟨fd, F⟩ := T.F_BadWeb_init
  exact ⟨T.ev_BadWeb, fd, ["self", "reason"], init1 F sc_BadWeb_init rfl T.ev_BadWeb.oex (T.ev_BadWeb.no _ (by simp)) (by first | exact Or.inl rfl | exact Or.inr (Or.inl rfl) | exact Or.inr (Or.inr rfl)) (by first | exact Or.inl rfl | exact Or.inr (Or.inl rfl) | exact Or.inr (Or.inr rfl)) (by decide) (by decide), F.bindsN fun _ _ _ _ _ _ us hl => match us, hl with | [_, _], _ => rfl⟩
theorem sc_BadForm_init : FnScope ["self", "form"] ["self", "form"] (defScope s_BadForm_init) := ⟨rfl, rfl, rfl, by decide +kernel, rfl, by decide +kernel, by decide +kernel⟩
abbrev C_err_BadForm (P : Program) (w : World) (K : PySem.W.Frag) (mg : Str → Option Value) (base : Heap) : Prop := ErR1 P w K mg base "BadForm" "form"
theorem fn_err_BadForm {P : Program} {w : World} {K : PySem.W.Frag} {mg : Str → Option Value} {base : Heap} (T : Txt P w K mg) : C_err_BadForm P w K mg base := by
  obtain ⟨fd, F⟩ := T.F_BadForm_init
  exact ⟨T.ev_BadForm, fd, ["self", "form"], init1 F sc_BadForm_init rfl T.ev_BadForm.oex (T.ev_BadForm.no _ (by simp)) (by first | exact Or.inl rfl | exact Or.inr (Or.inl rfl) | exact Or.inr (Or.inr rfl)) (by first | exact Or.inl rfl | exact Or.inr (Or.inl rfl) | exact Or.inr (Or.inr rfl)) (by decide) (by decide), F.bindsN fun _ _ _ _ _ _ us hl => match us, hl with | [_, _], _ => rfl⟩
theorem sc_BadName_init : FnScope ["self", "name"] ["self", "name"] (defScope s_BadName_init) := ⟨rfl, rfl, rfl, by decide +kernel, rfl, by decide +kernel, by decide +kernel⟩
abbrev C_err_BadName (P : Program) (w : World) (K : PySem.W.Frag) (mg : Str → Option Value) (base : Heap) : Prop := ErR1 P w K mg base "BadName" "name"
theorem fn_err_BadName {P : Program} {w : World} {K : PySem.W.Frag} {mg : Str → Option Value} {base : Heap} (T : Txt P w K mg) : C_err_BadName P w K mg base := by
  obtain ⟨fd, F⟩ := T.F_BadName_init
  exact ⟨T.ev_BadName, fd, ["self", "name"], init1 F sc_BadName_init rfl T.ev_BadName.oex (T.ev_BadName.no _ (by simp)) (by first | exact Or.inl rfl | exact Or.inr (Or.inl rfl) | exact Or.inr (Or.inr rfl)) (by first | exact Or.inl rfl | exact Or.inr (Or.inl rfl) | exact Or.inr (Or.inr rfl)) (by decide) (by decide), F.bindsN fun _ _ _ _ _ _ us hl => match us, hl with | [_, _], _ => rfl⟩
theorem sc_TakenName_init : FnScope ["self", "name"] ["self", "name"] (defScope s_TakenName_init) := ⟨rfl, rfl, rfl, by decide +kernel, rfl, by decide +kernel, by decide +kernel⟩
abbrev C_err_TakenName (P : Program) (w : World) (K : PySem.W.Frag) (mg : Str → Option Value) (base : Heap) : Prop := ErR1 P w K mg base "TakenName" "name"
theorem fn_err_TakenName {P : Program} {w : World} {K : PySem.W.Frag} {mg : Str → Option Value} {base : Heap} (T : Txt P w K mg) : C_err_TakenName P w K mg base := by
  obtain ⟨fd, F⟩ := T.F_TakenName_init
  exact ⟨T.ev_TakenName, fd, ["self", "name"], init1 F sc_TakenName_init rfl T.ev_TakenName.oex (T.ev_TakenName.no _ (by simp)) (by first | exact Or.inl rfl | exact Or.inr (Or.inl rfl) | exact Or.inr (Or.inr rfl)) (by first | exact Or.inl rfl | exact Or.inr (Or.inl rfl) | exact Or.inr (Or.inr rfl)) (by decide) (by decide), F.bindsN fun _ _ _ _ _ _ us hl => match us, hl with | [_, _], _ => rfl⟩
theorem sc_UnknownName_init : FnScope ["self", "name"] ["self", "name"] (defScope s_UnknownName_init) := ⟨rfl, rfl, rfl, by decide +kernel, rfl, by decide +kernel, by decide +kernel⟩
abbrev C_err_UnknownName (P : Program) (w : World) (K : PySem.W.Frag) (mg : Str → Option Value) (base : Heap) : Prop := ErR1 P w K mg base "UnknownName" "name"
theorem fn_err_UnknownName {P : Program} {w : World} {K : PySem.W.Frag} {mg : Str → Option Value} {base : Heap} (T : Txt P w K mg) : C_err_UnknownName P w K mg base := by
  obtain ⟨fd, F⟩ := T.F_UnknownName_init
  exact ⟨T.ev_UnknownName, fd, ["self", "name"], init1 F sc_UnknownName_init rfl T.ev_UnknownName.oex (T.ev_UnknownName.no _ (by simp)) (by first | exact Or.inl rfl | exact Or.inr (Or.inl rfl) | exact Or.inr (Or.inr rfl)) (by first | exact Or.inl rfl | exact Or.inr (Or.inl rfl) | exact Or.inr (Or.inr rfl)) (by decide) (by decide), F.bindsN fun _ _ _ _ _ _ us hl => match us, hl with | [_, _], _ => rfl⟩
theorem sc_law_strings : FnScope ["_law_first", "_law_second", "_law_a", "_law_b", "_law_c"] ["_law_first", "_law_second"] (defScope s_law_strings) := ⟨rfl, rfl, rfl, by decide +kernel, rfl, by decide +kernel, by decide +kernel⟩
def m_law_strings (p_first : Str) (p_second : Str) : Res Bool :=
  ((Res.ok p_first).bind fun v434 => ((Res.ok p_second).bind fun v435 => ((Res.ok p_first).bind fun v436 => ((((Res.ok v434).bind fun a447 => ((Res.ok v435).bind fun a444 => ((Res.ok v436).bind fun a441 => (Res.ok []).bind fun b442 => .ok (a441 :: b442)).bind fun b445 => .ok (a444 :: b445)).bind fun b448 => .ok (a447 :: b448)).bind fun a458 => ((Res.ok p_first).bind fun a456 => ((Res.ok p_second).bind fun a453 => ((Res.ok p_first).bind fun a450 => (Res.ok []).bind fun b451 => .ok (a450 :: b451)).bind fun b454 => .ok (a453 :: b454)).bind fun b457 => .ok (a456 :: b457)).bind fun b459 => (eqD (rL rStr) a458 b459).bind fun z => .ok (!z)).bind fun x460 => if x460 = true then (Res.ok false) else (((((((Res.ok v434).bind fun _ => .ok ("BadWeb" : Str)).bind fun a463 => (Res.ok ()).bind fun b464 => .ok (a463, b464)).bind (fun d => m_law_plain d.1)).bind fun a465 => .ok (!a465)).bind fun a475 => if a475 = true then .ok true else ((((((Res.ok v435).bind fun _ => .ok ("BadForm" : Str)).bind fun a467 => (Res.ok ()).bind fun b468 => .ok (a467, b468)).bind (fun d => m_law_plain d.1)).bind fun a469 => .ok (!a469)).bind fun a474 => if a474 = true then .ok true else (((((Res.ok v436).bind fun _ => .ok ("BadName" : Str)).bind fun a471 => (Res.ok ()).bind fun b472 => .ok (a471, b472)).bind (fun d => m_law_plain d.1)).bind fun a473 => .ok (!a473)))).bind fun x476 => if x476 = true then (Res.ok false) else ((Res.ok p_second).bind fun v478 => ((Res.ok p_first).bind fun v479 => ((((Res.ok v478).bind fun a486 => ((Res.ok v479).bind fun a483 => (Res.ok []).bind fun b484 => .ok (a483 :: b484)).bind fun b487 => .ok (a486 :: b487)).bind fun a494 => ((Res.ok p_second).bind fun a492 => ((Res.ok p_first).bind fun a489 => (Res.ok []).bind fun b490 => .ok (a489 :: b490)).bind fun b493 => .ok (a492 :: b493)).bind fun b495 => eqD (rL rStr) a494 b495).bind fun a503 => if a503 = true then (((((Res.ok v478).bind fun _ => .ok ("TakenName" : Str)).bind fun a497 => (Res.ok ()).bind fun b498 => .ok (a497, b498)).bind (fun d => m_law_plain d.1)).bind fun a502 => if a502 = true then ((((Res.ok v479).bind fun _ => .ok ("UnknownName" : Str)).bind fun a500 => (Res.ok ()).bind fun b501 => .ok (a500, b501)).bind (fun d => m_law_plain d.1)) else .ok false) else .ok false))))))))
abbrev C_law_strings (P : Program) (w : World) (K : PySem.W.Frag) (mg : Str → Option Value) (base : Heap) : Prop := FnR P w K mg base (L2N.CX P w) 3 (He.ga K "_law_strings") (spF K (aCons (rp rStr) (aCons (rp rStr) aNil)) (fun d => m_law_strings d.1 d.2.1) (rp rBl))
theorem ok_law_strings {P : Program} {w : World} {K : PySem.W.Frag} {mg : Str → Option Value} {base : Heap} (T : Txt P w K mg) (c_err_BadWeb : C_err_BadWeb P w K mg base) (c_err_BadForm : C_err_BadForm P w K mg base) (c_err_BadName : C_err_BadName P w K mg base) (c_law_plain : C_law_plain P w K mg base) (c_err_TakenName : C_err_TakenName P w K mg base) (c_err_UnknownName : C_err_UnknownName P w K mg base) {fd : FuncData} (F : FunD K "_law_strings" "_law_strings" (defArgs s_law_strings) (defBody s_law_strings) (defScope s_law_strings) [] [] (He.ga K "_law_strings") fd) : FnOk P w K mg base (L2N.CX P w) 3 (He.ga K "_law_strings") fd ["_law_first", "_law_second"] (spF K (aCons (rp rStr) (aCons (rp rStr) aNil)) (fun d => m_law_strings d.1 d.2.1) (rp rBl)) := by
  refine FunD.fn (k := 2) (N := ["_law_first", "_law_second", "_law_a", "_law_b", "_law_c"]) (ps := ["_law_first", "_law_second"]) F sc_law_strings (fun I H vs d h => ?_) (fun cdv A outer s I0 H0 E vs d hr sm h => ?_)
  · obtain ⟨v0, _, rfl, h0, v1, _, rfl, h1, rfl⟩ := h; rfl
  obtain ⟨v0, _, rfl, h0, v1, _, rfl, h1, rfl⟩ := h
  have hx : ∀ {ctx : List (Option SF)} {mem : List MF} (I H : Hp) (σ : St) (d : Option Addr), Stt I0 H0 ctx mem I H σ → Fr H0 d → bK I0 H0 I H σ d := fun _ _ _ _ s f => ⟨s.fm, f⟩
  have tk : L2N.Takes (bx P w K mg base ["_law_first", "_law_second", "_law_a", "_law_b", "_law_c"] "_law_strings" (defScope s_law_strings) (He.ga K "_law_strings") cdv A outer s H0 E) (bW E) := L2N.takes_of rfl rfl rfl rfl
  obtain ⟨p_first, p_second, _⟩ := d
  exact ⟨Stt I0 H0 [some (SF.mk rStr p_first), some (SF.mk rStr p_second), none, none, none] [], Stt.start sm ⟨h0, h1, ini_nil rfl⟩ rfl (by simp), (JR.seq (J1.cx (c' := fun v434 => [some (SF.mk rStr p_first), some (SF.mk rStr p_second), some (SF.mk (rEr1 K "BadWeb" "reason" rStr) v434), none, none]) (J1.set 2 (JE.err1 c_err_BadWeb (hr.mono (by decide)) (JE.var 0)) hx sc_law_strings.nd)) fun v434 => (JR.seq (J1.cx (c' := fun v435 => [some (SF.mk rStr p_first), some (SF.mk rStr p_second), some (SF.mk (rEr1 K "BadWeb" "reason" rStr) v434), some (SF.mk (rEr1 K "BadForm" "form" rStr) v435), none]) (J1.set 3 (JE.err1 c_err_BadForm (hr.mono (by decide)) (JE.var 1)) hx sc_law_strings.nd)) fun v435 => (JR.seq (J1.cx (c' := fun v436 => [some (SF.mk rStr p_first), some (SF.mk rStr p_second), some (SF.mk (rEr1 K "BadWeb" "reason" rStr) v434), some (SF.mk (rEr1 K "BadForm" "form" rStr) v435), some (SF.mk (rEr1 K "BadName" "name" rStr) v436)]) (J1.set 4 (JE.err1 c_err_BadName (hr.mono (by decide)) (JE.var 0)) hx sc_law_strings.nd)) fun v436 => (JR.ifR (JT.cmp (JE.rd (JE.ofM (JM.lst (r := rStr) (JA.consL (JE.erF1 T.ev_BadWeb.xf (T.ev_BadWeb.no _ (by simp)) (JE.var 2)) (JA.consL (JE.erF1 T.ev_BadForm.xf (T.ev_BadForm.no _ (by simp)) (JE.var 3)) (JA.consL (JE.erF1 T.ev_BadName.xf (T.ev_BadName.no _ (by simp)) (JE.var 4)) JA.nilL)))))) (JE.rd (JE.ofM (JM.lst (r := rStr) (JA.consL (JE.var 0) (JA.consL (JE.var 1) (JA.consL (JE.var 0) JA.nilL)))))) (opj_neDr (r := rStr) hr.units)) (JR.ret JE.bl hx) (JR.ifR (JT.bool (JW.or (JT.not (JT.of (JE.call (JA.cons (JE.toErr (JE.var 2) "BadWeb" (by decide +kernel) er1_any) JA.nil) (cj_of c_law_plain (hr.mono (by decide)) tk) T.g_law_plain T.k_law_plain))) (JW.or (JT.not (JT.of (JE.call (JA.cons (JE.toErr (JE.var 3) "BadForm" (by decide +kernel) er1_any) JA.nil) (cj_of c_law_plain (hr.mono (by decide)) tk) T.g_law_plain T.k_law_plain))) (JW.or1 (JT.not (JT.of (JE.call (JA.cons (JE.toErr (JE.var 4) "BadName" (by decide +kernel) er1_any) JA.nil) (cj_of c_law_plain (hr.mono (by decide)) tk) T.g_law_plain T.k_law_plain))))))) (JR.ret JE.bl hx) (JR.seq (J1.cx (c' := fun v478 => [some (SF.mk rStr p_first), some (SF.mk rStr p_second), some (SF.mk (rEr1 K "TakenName" "name" rStr) v478), some (SF.mk (rEr1 K "BadForm" "form" rStr) v435), some (SF.mk (rEr1 K "BadName" "name" rStr) v436)]) (J1.set 2 (JE.err1 c_err_TakenName (hr.mono (by decide)) (JE.var 1)) hx sc_law_strings.nd)) fun v478 => (JR.seq (J1.cx (c' := fun v479 => [some (SF.mk rStr p_first), some (SF.mk rStr p_second), some (SF.mk (rEr1 K "TakenName" "name" rStr) v478), some (SF.mk (rEr1 K "UnknownName" "name" rStr) v479), some (SF.mk (rEr1 K "BadName" "name" rStr) v436)]) (J1.set 3 (JE.err1 c_err_UnknownName (hr.mono (by decide)) (JE.var 0)) hx sc_law_strings.nd)) fun v479 => (JR.ret (JE.and (JE.cmp (JE.rd (JE.ofM (JM.lst (r := rStr) (JA.consL (JE.erF1 T.ev_TakenName.xf (T.ev_TakenName.no _ (by simp)) (JE.var 2)) (JA.consL (JE.erF1 T.ev_UnknownName.xf (T.ev_UnknownName.no _ (by simp)) (JE.var 3)) JA.nilL))))) (JE.rd (JE.ofM (JM.lst (r := rStr) (JA.consL (JE.var 1) (JA.consL (JE.var 0) JA.nilL))))) (opj_eqDr (r := rStr) hr.units)) (JE.and (JE.call (JA.cons (JE.toErr (JE.var 2) "TakenName" (by decide +kernel) er1_any) JA.nil) (cj_of c_law_plain (hr.mono (by decide)) tk) T.g_law_plain T.k_law_plain) (JE.one (JE.call (JA.cons (JE.toErr (JE.var 3) "UnknownName" (by decide +kernel) er1_any) JA.nil) (cj_of c_law_plain (hr.mono (by decide)) tk) T.g_law_plain T.k_law_plain)))) hx))) hx) hx))))⟩
theorem fn_law_strings {P : Program} {w : World} {K : PySem.W.Frag} {mg : Str → Option Value} {base : Heap} (T : Txt P w K mg) (c_err_BadWeb : C_err_BadWeb P w K mg base) (c_err_BadForm : C_err_BadForm P w K mg base) (c_err_BadName : C_err_BadName P w K mg base) (c_law_plain : C_law_plain P w K mg base) (c_err_TakenName : C_err_TakenName P w K mg base) (c_err_UnknownName : C_err_UnknownName P w K mg base) : FnR P w K mg base (L2N.CX P w) 3 (He.ga K "_law_strings") (spF K (aCons (rp rStr) (aCons (rp rStr) aNil)) (fun d => m_law_strings d.1 d.2.1) (rp rBl)) := by
  obtain ⟨fd, F⟩ := T.F_law_strings
  exact FnOk.fr0 (ok_law_strings T c_err_BadWeb c_err_BadForm c_err_BadName c_law_plain c_err_TakenName c_err_UnknownName F) (F.bindsN fun _ _ _ _ _ _ us hl => match us, hl with | [_, _], _ => rfl)
theorem sc_OutOfRange_init : FnScope ["self", "least", "greatest"] ["self", "least", "greatest"] (defScope s_OutOfRange_init) := ⟨rfl, rfl, rfl, by decide +kernel, rfl, by decide +kernel, by decide +kernel⟩
abbrev C_err_OutOfRange (P : Program) (w : World) (K : PySem.W.Frag) (mg : Str → Option Value) (base : Heap) : Prop := ErR2 P w K mg base "OutOfRange" "least" "greatest"
theorem fn_err_OutOfRange {P : Program} {w : World} {K : PySem.W.Frag} {mg : Str → Option Value} {base : Heap} (T : Txt P w K mg) : C_err_OutOfRange P w K mg base := by
  obtain ⟨fd, F⟩ := T.F_OutOfRange_init
  exact ⟨T.ev_OutOfRange, fd, ["self", "least", "greatest"], init2 F sc_OutOfRange_init rfl T.ev_OutOfRange.oex (T.ev_OutOfRange.no _ (by simp)) (T.ev_OutOfRange.no _ (by simp)) (by first | exact Or.inl rfl | exact Or.inr (Or.inl rfl) | exact Or.inr (Or.inr rfl)) (by first | exact Or.inl rfl | exact Or.inr (Or.inl rfl) | exact Or.inr (Or.inr rfl)) (by first | exact Or.inl rfl | exact Or.inr (Or.inl rfl) | exact Or.inr (Or.inr rfl)) (by decide) (by decide) (by decide) (by decide), F.bindsN fun _ _ _ _ _ _ us hl => match us, hl with | [_, _, _], _ => rfl⟩
theorem sc_Fraction_eq : FnScope ["self", "other"] ["self", "other"] (defScope s_Fraction_eq) := ⟨rfl, rfl, rfl, by decide +kernel, rfl, by decide +kernel, by decide +kernel⟩
def m_Fraction_eq (p_self : Rat) (p_other : Num) : Res Bool :=
  (match p_other with | .i p_other_i => (((Res.ok p_other_i).bind fun a536 => .ok true).bind fun x537 => if x537 = true then ((((Res.ok p_self).bind fun a538 => .ok (a538.den : Int)).bind fun a539 => (Res.ok (1 : Int)).bind fun b540 => .ok (decide (a539 = b540))).bind fun a544 => if a544 = true then (((Res.ok p_self).bind fun a541 => .ok a541.num).bind fun a542 => (Res.ok p_other_i).bind fun b543 => .ok (decide (a542 = b543))) else .ok false) else .stuck) | .q p_other_q => (((Res.ok p_other_q).bind fun a546 => .ok false).bind fun x547 => if x547 = true then .stuck else ((((Res.ok p_other_q).bind fun a548 => .ok true).bind fun a549 => .ok (!a549)).bind fun x550 => if x550 = true then .stuck else ((((Res.ok p_self).bind fun a551 => .ok a551.num).bind fun a553 => ((Res.ok p_other_q).bind fun a552 => .ok a552.num).bind fun b554 => .ok (decide (a553 = b554))).bind fun a559 => if a559 = true then (((Res.ok p_self).bind fun a555 => .ok (a555.den : Int)).bind fun a557 => ((Res.ok p_other_q).bind fun a556 => .ok (a556.den : Int)).bind fun b558 => .ok (decide (a557 = b558))) else .ok false))))
abbrev C_Fraction_eq (P : Program) (w : World) (K : PySem.W.Frag) (mg : Str → Option Value) (base : Heap) : Prop := FnR P w K mg base (L2N.CX P w) 1 (He.ma K (He.ga K "Fraction") "__eq__") (spF K (aCons (rp (rFrac K)) (aCons (rp (rNum K)) aNil)) (fun d => qEq d.1 d.2.1) (rp rBl))
theorem ok_Fraction_eq {P : Program} {w : World} {K : PySem.W.Frag} {mg : Str → Option Value} {base : Heap} (T : Txt P w K mg) {fd : FuncData} (F : FunD K "__eq__" "Fraction.__eq__" (defArgs s_Fraction_eq) (defBody s_Fraction_eq) (defScope s_Fraction_eq) [] [] (He.ma K (He.ga K "Fraction") "__eq__") fd) : FnOk P w K mg base (L2N.CX P w) 1 (He.ma K (He.ga K "Fraction") "__eq__") fd ["self", "other"] (spF K (aCons (rp (rFrac K)) (aCons (rp (rNum K)) aNil)) (fun d => m_Fraction_eq d.1 d.2.1) (rp rBl)) := by
  refine FunD.fn (k := 0) (N := ["self", "other"]) (ps := ["self", "other"]) F sc_Fraction_eq (fun I H vs d h => ?_) (fun cdv A outer s I0 H0 E vs d hr sm h => ?_)
  · obtain ⟨v0, _, rfl, h0, v1, _, rfl, h1, rfl⟩ := h; rfl
  obtain ⟨v0, _, rfl, h0, v1, _, rfl, h1, rfl⟩ := h
  have hx : ∀ {ctx : List (Option SF)} {mem : List MF} (I H : Hp) (σ : St) (d : Option Addr), Stt I0 H0 ctx mem I H σ → Fr H0 d → bK I0 H0 I H σ d := fun _ _ _ _ s f => ⟨s.fm, f⟩
  have tk : L2N.Takes (bx P w K mg base ["self", "other"] "Fraction.__eq__" (defScope s_Fraction_eq) (He.ma K (He.ga K "Fraction") "__eq__") cdv A outer s H0 E) (bW E) := L2N.takes_of rfl rfl rfl rfl
  obtain ⟨p_self, p_other, _⟩ := d
  exact ⟨Stt I0 H0 [some (SF.mk (rFrac K) p_self), some (SF.mk (rNum K) p_other)] [], Stt.start sm ⟨h0, h1, ini_nil rfl⟩ rfl (by simp), (JR.num (K := K) 1 (fun p_other_i => JR.at (c' := [some (SF.mk (rFrac K) p_self), some (SF.mk rInt p_other_i)]) (JR.ifR (JT.of (JE.isi (JE.var 1) (w_type_at T.n_int (by decide +kernel) rfl (by decide) (by decide)) (.ty _) (tyr_int (t := "int") (by decide +kernel)) T.n_isinstance)) (JR.ret (JE.and (JE.cmp (JE.fld (JE.var 0) fld_bottom T.o_Fraction.cl T.na_Fraction_bottom) JE.int opj_eq) (JE.one (JE.cmp (JE.fld (JE.var 0) fld_top T.o_Fraction.cl T.na_Fraction_top) (JE.var 1) opj_eq))) hx) JR.dead hx)) (fun p_other_q => JR.at (c' := [some (SF.mk (rFrac K) p_self), some (SF.mk (rFrac K) p_other_q)]) (JR.ifR (JT.of (JE.isi (JE.var 1) (w_type_at T.n_int (by decide +kernel) rfl (by decide) (by decide)) (.ty _) (tyr_ins T.o_Fraction insF T.kT_Fraction_int) T.n_isinstance)) JR.dead (JR.ifR (JT.not (JT.of (JE.isi (JE.var 1) (w_glob_at T.g_Fraction rfl (by decide)) (.own _) (tyr_ins T.o_Fraction insF T.kt_Fraction_Fraction) T.n_isinstance))) JR.dead (JR.ret (JE.and (JE.cmp (JE.fld (JE.var 0) fld_top T.o_Fraction.cl T.na_Fraction_top) (JE.fld (JE.var 1) fld_top T.o_Fraction.cl T.na_Fraction_top) opj_eq) (JE.one (JE.cmp (JE.fld (JE.var 0) fld_bottom T.o_Fraction.cl T.na_Fraction_bottom) (JE.fld (JE.var 1) fld_bottom T.o_Fraction.cl T.na_Fraction_bottom) opj_eq))) hx) hx) hx)))⟩
theorem fn_Fraction_eq {P : Program} {w : World} {K : PySem.W.Frag} {mg : Str → Option Value} {base : Heap} (T : Txt P w K mg) : FnR P w K mg base (L2N.CX P w) 1 (He.ma K (He.ga K "Fraction") "__eq__") (spF K (aCons (rp (rFrac K)) (aCons (rp (rNum K)) aNil)) (fun d => m_Fraction_eq d.1 d.2.1) (rp rBl)) := by
  obtain ⟨fd, F⟩ := T.F_Fraction_eq
  exact FnOk.fr0 (ok_Fraction_eq T F) (F.bindsN fun _ _ _ _ _ _ us hl => match us, hl with | [_, _], _ => rfl)
theorem nice_Fraction_eq : ∀ d : Rat × Num × Unit, qEq d.1 d.2.1 = .stuck ∨ qEq d.1 d.2.1 = m_Fraction_eq d.1 d.2.1 := fun ⟨x, y, _⟩ => by
  right
  cases y with
  | i n =>
      simp only [m_Fraction_eq, Res.ok_bind, Bool.not_true, Bool.not_false, Bool.false_eq_true, if_true, if_false]
      exact (eq_dec1 x n).symm
  | q y =>
      simp only [m_Fraction_eq, Res.ok_bind, Bool.not_true, Bool.not_false, Bool.false_eq_true, if_true, if_false]
      exact (eq_dec x y).symm
theorem sc_law_pairs : FnScope ["_law_number", "_law_first", "_law_second", "_law_a", "_law_b"] ["_law_number", "_law_first", "_law_second"] (defScope s_law_pairs) := ⟨rfl, rfl, rfl, by decide +kernel, rfl, by decide +kernel, by decide +kernel⟩
def m_law_pairs (p_number : Int) (p_first : Rat) (p_second : Rat) : Res Bool :=
  (((Res.ok p_number).bind fun a506 => (Res.ok p_first).bind fun b507 => .ok (a506, b507)).bind fun v505 => (((Res.ok p_first).bind fun a509 => (Res.ok p_second).bind fun b510 => .ok (a509, b510)).bind fun v508 => (((((Res.ok v505).bind fun a511 => .ok a511.1).bind fun a512 => (Res.ok p_number).bind fun b513 => .ok (!decide (a512 = b513))).bind fun a525 => if a525 = true then .ok true else ((((Res.ok v505).bind fun a514 => .ok a514.2).bind fun a515 => (Res.ok p_first).bind fun b516 => (qEq a515 (.q b516)).bind fun z => .ok (!z)).bind fun a524 => if a524 = true then .ok true else ((((Res.ok v508).bind fun a517 => .ok a517.1).bind fun a518 => (Res.ok p_first).bind fun b519 => (qEq a518 (.q b519)).bind fun z => .ok (!z)).bind fun a523 => if a523 = true then .ok true else (((Res.ok v508).bind fun a520 => .ok a520.2).bind fun a521 => (Res.ok p_second).bind fun b522 => (qEq a521 (.q b522)).bind fun z => .ok (!z))))).bind fun x526 => if x526 = true then (Res.ok false) else (((((Res.ok v505).bind fun _ => .ok ("Barred" : Str)).bind fun a529 => (Res.ok ()).bind fun b530 => .ok (a529, b530)).bind (fun d => m_law_plain d.1)).bind fun a534 => if a534 = true then ((((Res.ok v508).bind fun _ => .ok ("OutOfRange" : Str)).bind fun a532 => (Res.ok ()).bind fun b533 => .ok (a532, b533)).bind (fun d => m_law_plain d.1)) else .ok false))))
abbrev C_law_pairs (P : Program) (w : World) (K : PySem.W.Frag) (mg : Str → Option Value) (base : Heap) : Prop := FnR P w K mg base (L2N.CX P w) 4 (He.ga K "_law_pairs") (spF K (aCons (rp rInt) (aCons (rp (rFrac K)) (aCons (rp (rFrac K)) aNil))) (fun d => m_law_pairs d.1 d.2.1 d.2.2.1) (rp rBl))
theorem ok_law_pairs {P : Program} {w : World} {K : PySem.W.Frag} {mg : Str → Option Value} {base : Heap} (T : Txt P w K mg) (c_err_Barred : C_err_Barred P w K mg base) (c_err_OutOfRange : C_err_OutOfRange P w K mg base) (c_Fraction_eq : C_Fraction_eq P w K mg base) (c_law_plain : C_law_plain P w K mg base) {fd : FuncData} (F : FunD K "_law_pairs" "_law_pairs" (defArgs s_law_pairs) (defBody s_law_pairs) (defScope s_law_pairs) [] [] (He.ga K "_law_pairs") fd) : FnOk P w K mg base (L2N.CX P w) 4 (He.ga K "_law_pairs") fd ["_law_number", "_law_first", "_law_second"] (spF K (aCons (rp rInt) (aCons (rp (rFrac K)) (aCons (rp (rFrac K)) aNil))) (fun d => m_law_pairs d.1 d.2.1 d.2.2.1) (rp rBl)) := by
  refine FunD.fn (k := 3) (N := ["_law_number", "_law_first", "_law_second", "_law_a", "_law_b"]) (ps := ["_law_number", "_law_first", "_law_second"]) F sc_law_pairs (fun I H vs d h => ?_) (fun cdv A outer s I0 H0 E vs d hr sm h => ?_)
  · obtain ⟨v0, _, rfl, h0, v1, _, rfl, h1, v2, _, rfl, h2, rfl⟩ := h; rfl
  obtain ⟨v0, _, rfl, h0, v1, _, rfl, h1, v2, _, rfl, h2, rfl⟩ := h
  have hx : ∀ {ctx : List (Option SF)} {mem : List MF} (I H : Hp) (σ : St) (d : Option Addr), Stt I0 H0 ctx mem I H σ → Fr H0 d → bK I0 H0 I H σ d := fun _ _ _ _ s f => ⟨s.fm, f⟩
  have tk : L2N.Takes (bx P w K mg base ["_law_number", "_law_first", "_law_second", "_law_a", "_law_b"] "_law_pairs" (defScope s_law_pairs) (He.ga K "_law_pairs") cdv A outer s H0 E) (bW E) := L2N.takes_of rfl rfl rfl rfl
  obtain ⟨p_number, p_first, p_second, _⟩ := d
  exact ⟨Stt I0 H0 [some (SF.mk rInt p_number), some (SF.mk (rFrac K) p_first), some (SF.mk (rFrac K) p_second), none, none] [], Stt.start sm ⟨h0, h1, h2, ini_nil rfl⟩ rfl (by simp), (JR.seq (J1.cx (c' := fun v505 => [some (SF.mk rInt p_number), some (SF.mk (rFrac K) p_first), some (SF.mk (rFrac K) p_second), some (SF.mk (rEr2 K "Barred" "tick" "weights" rInt (rFrac K)) v505), none]) (J1.set 3 (JE.err2 c_err_Barred (hr.mono (by decide)) (JE.var 0) (JE.var 1)) hx sc_law_pairs.nd)) fun v505 => (JR.seq (J1.cx (c' := fun v508 => [some (SF.mk rInt p_number), some (SF.mk (rFrac K) p_first), some (SF.mk (rFrac K) p_second), some (SF.mk (rEr2 K "Barred" "tick" "weights" rInt (rFrac K)) v505), some (SF.mk (rEr2 K "OutOfRange" "least" "greatest" (rFrac K) (rFrac K)) v508)]) (J1.set 4 (JE.err2 c_err_OutOfRange (hr.mono (by decide)) (JE.var 1) (JE.var 2)) hx sc_law_pairs.nd)) fun v508 => (JR.ifR (JT.bool (JW.or (JT.cmp (JE.erF2a T.ev_Barred.xf (T.ev_Barred.no _ (by simp)) (JE.var 3)) (JE.var 0) opj_ne) (JW.or (JT.cmp (JE.erF2b T.ev_Barred.xf (T.ev_Barred.no _ (by simp)) (JE.var 3)) (JE.var 1) (opj_neqq (gb := fun d => qEq d.1 d.2.1) T.o_Fraction T.om_Fraction_eq T.nf_Fraction.1 c_Fraction_eq (hr.mono (by decide)) tk)) (JW.or (JT.cmp (JE.erF2a T.ev_OutOfRange.xf (T.ev_OutOfRange.no _ (by simp)) (JE.var 4)) (JE.var 1) (opj_neqq (gb := fun d => qEq d.1 d.2.1) T.o_Fraction T.om_Fraction_eq T.nf_Fraction.1 c_Fraction_eq (hr.mono (by decide)) tk)) (JW.or1 (JT.cmp (JE.erF2b T.ev_OutOfRange.xf (T.ev_OutOfRange.no _ (by simp)) (JE.var 4)) (JE.var 2) (opj_neqq (gb := fun d => qEq d.1 d.2.1) T.o_Fraction T.om_Fraction_eq T.nf_Fraction.1 c_Fraction_eq (hr.mono (by decide)) tk))))))) (JR.ret JE.bl hx) (JR.ret (JE.and (JE.call (JA.cons (JE.toErr (JE.var 3) "Barred" (by decide +kernel) er2_any) JA.nil) (cj_of c_law_plain (hr.mono (by decide)) tk) T.g_law_plain T.k_law_plain) (JE.one (JE.call (JA.cons (JE.toErr (JE.var 4) "OutOfRange" (by decide +kernel) er2_any) JA.nil) (cj_of c_law_plain (hr.mono (by decide)) tk) T.g_law_plain T.k_law_plain))) hx) hx)))⟩
theorem fn_law_pairs {P : Program} {w : World} {K : PySem.W.Frag} {mg : Str → Option Value} {base : Heap} (T : Txt P w K mg) (c_err_Barred : C_err_Barred P w K mg base) (c_err_OutOfRange : C_err_OutOfRange P w K mg base) (c_Fraction_eq : C_Fraction_eq P w K mg base) (c_law_plain : C_law_plain P w K mg base) : FnR P w K mg base (L2N.CX P w) 4 (He.ga K "_law_pairs") (spF K (aCons (rp rInt) (aCons (rp (rFrac K)) (aCons (rp (rFrac K)) aNil))) (fun d => m_law_pairs d.1 d.2.1 d.2.2.1) (rp rBl)) := by
  obtain ⟨fd, F⟩ := T.F_law_pairs
  exact FnOk.fr0 (ok_law_pairs T c_err_Barred c_err_OutOfRange c_Fraction_eq c_law_plain F) (F.bindsN fun _ _ _ _ _ _ us hl => match us, hl with | [_, _, _], _ => rfl)
theorem sc_law : FnScope ["_law_script", "_law_number", "_law_other", "_law_word"] ["_law_script"] (defScope s_law) := ⟨rfl, rfl, rfl, by decide +kernel, rfl, by decide +kernel, by decide +kernel⟩
def m_law (p_script : (List Int)) : Res Bool :=
  (((((((Res.ok p_script).bind fun a6 => ((Res.ok (0 : Int)).bind fun a4 => (Res.ok ()).bind fun b5 => .ok (a4, b5)).bind fun b7 => .ok (a6, b7)).bind (fun d => m_law_cell d.1 d.2.1)).bind fun a8 => (Res.ok ()).bind fun b9 => .ok (a8, b9)).bind (fun d => .ok d.1)).bind fun a12 => ((Res.ok (10 : Int)).bind fun a10 => (Res.ok (20 : Int)).bind fun b11 => powI a10 b11).bind fun b13 => modI a12 b13).bind fun v_law_number_1 => ((((((((Res.ok p_script).bind fun a19 => ((Res.ok (1 : Int)).bind fun a17 => (Res.ok ()).bind fun b18 => .ok (a17, b18)).bind fun b20 => .ok (a19, b20)).bind (fun d => m_law_cell d.1 d.2.1)).bind fun a21 => (Res.ok ()).bind fun b22 => .ok (a21, b22)).bind (fun d => .ok d.1)).bind fun a25 => ((Res.ok (10 : Int)).bind fun a23 => (Res.ok (20 : Int)).bind fun b24 => powI a23 b24).bind fun b26 => modI a25 b26).bind fun a27 => (Res.ok v_law_number_1).bind fun b28 => .ok (a27 - b28)).bind fun v14 => ((((Res.ok ("abcdefgh" : Str)).bind fun a32 => ((Res.ok v_law_number_1).bind fun a30 => (Res.ok (8 : Int)).bind fun b31 => modI a30 b31).bind fun b33 => atS a32 b33).bind fun a40 => ((Res.ok (1 : Int)).bind fun a38 => (((Res.ok v_law_number_1).bind fun a34 => (Res.ok (8 : Int)).bind fun b35 => fdivI a34 b35).bind fun a36 => (Res.ok (5 : Int)).bind fun b37 => modI a36 b37).bind fun b39 => .ok (a38 + b39)).bind fun b41 => repS a40 b41).bind fun v29 => ((((((Res.ok v_law_number_1).bind fun a43 => (Res.ok ()).bind fun b44 => .ok (a43, b44)).bind (fun d => m_law_without d.1)).bind fun a45 => .ok (!a45)).bind fun a58 => if a58 = true then .ok true else (((((Res.ok v14).bind fun a47 => (Res.ok ()).bind fun b48 => .ok (a47, b48)).bind (fun d => m_law_raised d.1)).bind fun a49 => .ok (!a49)).bind fun a57 => if a57 = true then .ok true else ((((Res.ok v_law_number_1).bind fun a54 => ((Res.ok v14).bind fun a52 => (Res.ok ()).bind fun b53 => .ok (a52, b53)).bind fun b55 => .ok (a54, b55)).bind (fun d => m_law_numbers d.1 d.2.1)).bind fun a56 => .ok (!a56)))).bind fun x59 => if x59 = true then (Res.ok false) else ((((((Res.ok v29).bind fun a67 => (((Res.ok v29).bind fun a62 => (Res.ok ("x" : Str)).bind fun b63 => Res.guard (a62.length + b63.length ≤ sizeLine) (.ok (a62 ++ b63))).bind fun a65 => (Res.ok ()).bind fun b66 => .ok (a65, b66)).bind fun b68 => .ok (a67, b68)).bind (fun d => m_law_strings d.1 d.2.1)).bind fun a69 => .ok (!a69)).bind fun a79 => if a79 = true then .ok true else (((((Res.ok v29).bind fun a70 => (Res.ok ("y" : Str)).bind fun b71 => Res.guard (a70.length + b71.length ≤ sizeLine) (.ok (a70 ++ b71))).bind fun a76 => ((Res.ok v29).bind fun a74 => (Res.ok ()).bind fun b75 => .ok (a74, b75)).bind fun b77 => .ok (a76, b77)).bind (fun d => m_law_strings d.1 d.2.1)).bind fun a78 => .ok (!a78))).bind fun x80 => if x80 = true then (Res.ok false) else (((Res.ok v14).bind fun a101 => ((((Res.ok v_law_number_1).bind fun a87 => ((Res.ok (7 : Int)).bind fun a85 => (Res.ok ()).bind fun b86 => .ok (a85, b86)).bind fun b88 => .ok (a87, b88)).bind (fun d => qMk d.1 d.2.1)).bind fun a99 => ((((Res.ok v14).bind fun a94 => ((Res.ok (3 : Int)).bind fun a92 => (Res.ok ()).bind fun b93 => .ok (a92, b93)).bind fun b95 => .ok (a94, b95)).bind (fun d => qMk d.1 d.2.1)).bind fun a97 => (Res.ok ()).bind fun b98 => .ok (a97, b98)).bind fun b100 => .ok (a99, b100)).bind fun b102 => .ok (a101, b102)).bind (fun d => m_law_pairs d.1 d.2.1 d.2.2.1)))))))
theorem fn_law {P : Program} {w : World} {K : PySem.W.Frag} {mg : Str → Option Value} {base : Heap} (T : Txt P w K mg) (c_law_cell : C_law_cell P w K mg base) (c_law_without : C_law_without P w K mg base) (c_law_raised : C_law_raised P w K mg base) (c_law_numbers : C_law_numbers P w K mg base) (c_law_strings : C_law_strings P w K mg base) (c_Fraction_2 : C_Fraction_2 P w K mg base) (c_law_pairs : C_law_pairs P w K mg base) {fd : FuncData} (F : FunD K "law" "law" (defArgs s_law) (defBody s_law) (defScope s_law) [] [] (He.ga K "law") fd) : FnOk P w K mg base (L2N.CX P w) 39 (He.ga K "law") fd ["_law_script"] (spF K (aCons (rdL K (rp rInt)) aNil) (fun d => m_law d.1) (rp rBl)) := by
  refine FunD.fn (k := 38) (N := ["_law_script", "_law_number", "_law_other", "_law_word"]) (ps := ["_law_script"]) F sc_law (fun I H vs d h => ?_) (fun cdv A outer s I0 H0 E vs d hr sm h => ?_)
  · obtain ⟨v0, _, rfl, h0, rfl⟩ := h; rfl
  obtain ⟨v0, _, rfl, h0, rfl⟩ := h
  have hx : ∀ {ctx : List (Option SF)} {mem : List MF} (I H : Hp) (σ : St) (d : Option Addr), Stt I0 H0 ctx mem I H σ → Fr H0 d → bK I0 H0 I H σ d := fun _ _ _ _ s f => ⟨s.fm, f⟩
  have tk : L2N.Takes (bx P w K mg base ["_law_script", "_law_number", "_law_other", "_law_word"] "law" (defScope s_law) (He.ga K "law") cdv A outer s H0 E) (bW E) := L2N.takes_of rfl rfl rfl rfl
  obtain ⟨p_script, _⟩ := d
  exact ⟨Stt I0 H0 [some (SF.mk (fun I v x => (rdL K (rp rInt)) I H0 v x) p_script), none, none, none] [], Stt.start sm ⟨h0, ini_nil rfl⟩ rfl (by simp), (JR.seq (J1.cx (c' := fun v_law_number_1 => [some (SF.mk (fun I v x => (rdL K (rp rInt)) I H0 v x) p_script), some (SF.mk rInt v_law_number_1), none, none]) (J1.set 1 (JE.bin (JE.callTy (JA.cons (JE.call (JA.cons (JE.varP 0 (r := (rdL K (rp rInt)))) (JA.cons JE.int JA.nil)) (cj_of c_law_cell (hr.mono (by decide)) tk) T.g_law_cell T.k_law_cell) JA.nil) cj_int T.n_int boot_int) (JE.bin JE.int JE.int opj_pow) opj_mod) hx sc_law.nd)) fun v_law_number_1 => (JR.seq (J1.cx (c' := fun v14 => [some (SF.mk (fun I v x => (rdL K (rp rInt)) I H0 v x) p_script), some (SF.mk rInt v_law_number_1), some (SF.mk rInt v14), none]) (J1.set 2 (JE.bin (JE.bin (JE.callTy (JA.cons (JE.call (JA.cons (JE.varP 0 (r := (rdL K (rp rInt)))) (JA.cons JE.int JA.nil)) (cj_of c_law_cell (hr.mono (by decide)) tk) T.g_law_cell T.k_law_cell) JA.nil) cj_int T.n_int boot_int) (JE.bin JE.int JE.int opj_pow) opj_mod) (JE.var 1) opj_sub) hx sc_law.nd)) fun v14 => (JR.seq (J1.cx (c' := fun v29 => [some (SF.mk (fun I v x => (rdL K (rp rInt)) I H0 v x) p_script), some (SF.mk rInt v_law_number_1), some (SF.mk rInt v14), some (SF.mk rStr v29)]) (J1.set 3 (JE.bin (JE.ixStr JE.str (JE.bin (JE.var 1) JE.int opj_mod)) (JE.bin JE.int (JE.bin (JE.bin (JE.var 1) JE.int opj_fdiv) JE.int opj_mod) opj_add) opj_mulS) hx sc_law.nd)) fun v29 => (JR.ifR (JT.bool (JW.or (JT.not (JT.of (JE.call (JA.cons (JE.var 1) JA.nil) (cj_of c_law_without (hr.mono (by decide)) tk) T.g_law_without T.k_law_without))) (JW.or (JT.not (JT.of (JE.call (JA.cons (JE.var 2) JA.nil) (cj_of c_law_raised (hr.mono (by decide)) tk) T.g_law_raised T.k_law_raised))) (JW.or1 (JT.not (JT.of (JE.call (JA.cons (JE.var 1) (JA.cons (JE.var 2) JA.nil)) (cj_of c_law_numbers (hr.mono (by decide)) tk) T.g_law_numbers T.k_law_numbers))))))) (JR.ret JE.bl hx) (JR.ifR (JT.bool (JW.or (JT.not (JT.of (JE.call (JA.cons (JE.var 3) (JA.cons (JE.bin (JE.var 3) JE.str opj_addS) JA.nil)) (cj_of c_law_strings (hr.mono (by decide)) tk) T.g_law_strings T.k_law_strings))) (JW.or1 (JT.not (JT.of (JE.call (JA.cons (JE.bin (JE.var 3) JE.str opj_addS) (JA.cons (JE.var 3) JA.nil)) (cj_of c_law_strings (hr.mono (by decide)) tk) T.g_law_strings T.k_law_strings)))))) (JR.ret JE.bl hx) (JR.ret (JE.call (JA.cons (JE.var 2) (JA.cons (JE.call (JA.cons (JE.var 1) (JA.cons JE.int JA.nil)) (c_Fraction_2 _ _ rfl rfl rfl rfl rfl (hr.mono (by decide)) tk) T.g_Fraction T.mk_Fraction.kp) (JA.cons (JE.call (JA.cons (JE.var 2) (JA.cons JE.int JA.nil)) (c_Fraction_2 _ _ rfl rfl rfl rfl rfl (hr.mono (by decide)) tk) T.g_Fraction T.mk_Fraction.kp) JA.nil))) (cj_of c_law_pairs (hr.mono (by decide)) tk) T.g_law_pairs T.k_law_pairs) hx) hx) hx))))⟩
end L2.Tr

namespace L2.Tr
open PySem PySem.Spec PyProof.Rows
theorem cell_eq (ns : List Int) (k : Int) (hk : 0 ≤ k) : m_law_cell ns k = .ok (ns.getD k.toNat 0) := by
  unfold m_law_cell
  simp only [Res.okb]
  by_cases h : k < (ns.length : Int)
  · simp only [h, decide_true, if_true]
    have hl : k.toNat < ns.length := by omega
    have e : atM ns ((k.toNat : Nat) : Int) = .ok (ns.getD k.toNat 0) := atM_nat (by simp [List.getD, hl])
    rwa [Int.toNat_of_nonneg hk] at e
  · simp only [h, decide_false, Bool.false_eq_true, if_false]
    have : ns[k.toNat]? = none := List.getElem?_eq_none (by omega)
    simp [List.getD, this]

theorem tryG_err05 {S L γ : Type} {e : Exn} {Ls : List (Str × Bool)} {h : Exn → Res (Fl S L γ)} {y : Fl S L γ} (h1 : Ls.lookup e.cls = some true) (h2 : h e = .ok y) : tryG (.err e) Ls h = .ok y := by
  unfold tryG
  dsimp only
  rw [h1]
  dsimp only
  rw [h2]
theorem errb05 {α β : Type} (e : Exn) (f : α → Res β) : (Res.err e).bind f = .err e := by
  have h : ∀ m : Res α, m = .err e → m.bind f = .err e := fun m q => by subst q; rfl
  exact h _ rfl
theorem plain_ok : ∀ c, c ∈ errNS → m_law_plain c = .ok true := by
  intro c hc
  unfold errNS at hc
  simp only [List.mem_cons, List.not_mem_nil, or_false] at hc
  rcases hc with rfl | rfl | rfl | rfl | rfl | rfl | rfl | rfl | rfl | rfl | rfl | rfl | rfl | rfl | rfl | rfl | rfl | rfl | rfl <;> kernel_rfl
theorem eqS3 {a : List Str} (h : ∀ x ∈ a, PyData.strOk x = true) : eqD (rL rStr) a a = .ok true := by
  have e : DpC.lay (r := rL rStr) a = true := by
    show a.all (fun x => PyData.strOk x) = true
    exact List.all_eq_true.mpr h
  unfold eqD
  rw [Res.guard_pos ⟨e, e⟩]
  exact congrArg Res.ok (by simp)
theorem word_ok {k n : Int} (h0 : 0 ≤ k) (h8 : k < 8) (n1 : 1 ≤ n) (n5 : n ≤ 5) : ∃ a w, atS "abcdefgh" k = .ok a ∧ repS a n = .ok w ∧ w.length ≤ 5 ∧ PyData.strOk w = true := by
  refine ⟨⟨#[97 + k.toNat]⟩, repT ⟨#[97 + k.toNat]⟩ n, ?_⟩
  rcases (show k = 0 ∨ k = 1 ∨ k = 2 ∨ k = 3 ∨ k = 4 ∨ k = 5 ∨ k = 6 ∨ k = 7 by omega) with rfl | rfl | rfl | rfl | rfl | rfl | rfl | rfl <;> rcases (show n = 1 ∨ n = 2 ∨ n = 3 ∨ n = 4 ∨ n = 5 by omega) with rfl | rfl | rfl | rfl | rfl <;> exact ⟨by kernel_rfl, by kernel_rfl, by decide +kernel, by decide +kernel⟩
theorem strOk_app {x y : Str} (hx : PyData.strOk x = true) (hy : PyData.strOk y = true) : PyData.strOk (x ++ y) = true := by
  unfold PyData.strOk at hx hy ⊢
  have e : (x ++ y).cps = x.cps ++ y.cps := rfl
  rw [e, Array.all_append, hx, hy]; rfl
theorem strings_ok {a b : Str} (ha : PyData.strOk a = true) (hb : PyData.strOk b = true) : m_law_strings a b = .ok true := by
  unfold m_law_strings
  simp only [Res.okb, Res.bind_assoc, Res.bind_ok]
  rw [eqS3 (by simp [ha, hb]), Res.okb, if_neg (by decide)]
  have p := plain_ok
  rw [p "BadWeb" (by decide +kernel), Res.okb, if_neg (by decide), p "BadForm" (by decide +kernel), Res.okb, if_neg (by decide), p "BadName" (by decide +kernel), Res.okb, Res.okb, if_neg (by decide), eqS3 (by simp [ha, hb]), Res.okb, if_pos rfl, p "TakenName" (by decide +kernel), Res.okb, if_pos rfl, p "UnknownName" (by decide +kernel)]
theorem numbers_ok (a b : Int) : m_law_numbers a b = .ok true := by
  unfold m_law_numbers
  simp only [Res.okb, Res.bind_assoc, Res.bind_ok]
  have p := plain_ok
  rw [if_neg (by simp), p "BadShare" (by decide +kernel), Res.okb, if_neg (by decide), p "BadTick" (by decide +kernel), Res.okb, if_neg (by decide), p "BadRoom" (by decide +kernel), Res.okb, if_neg (by decide), p "BadLine" (by decide +kernel), Res.okb, Res.okb, if_neg (by decide), if_neg (by simp), p "BadText" (by decide +kernel), Res.okb, if_pos rfl, p "FullReader" (by decide +kernel), Res.okb, if_pos rfl, p "Misfit" (by decide +kernel), Res.okb, if_pos rfl, p "NoWeb" (by decide +kernel)]
theorem pairs_ok (a : Int) (x y : Rat) : m_law_pairs a x y = .ok true := by
  unfold m_law_pairs
  simp only [Res.okb, Res.bind_assoc, Res.bind_ok]
  have p := plain_ok
  have qr : ∀ q : Rat, qEq q (.q q) = .ok true := qEq_refl
  rw [if_neg (by simp), qr x, Res.okb, if_neg (by decide), Res.okb, if_neg (by decide), qr y, Res.okb, Res.okb, if_neg (by decide), p "Barred" (by decide +kernel), Res.okb, if_pos rfl, p "OutOfRange" (by decide +kernel)]
theorem without_ok05 (a : Int) : m_law_without a = .ok true := by
  unfold m_law_without
  simp only [Res.okb, Res.bind_assoc, Res.bind_ok]
  have p := plain_ok
  rw [p "BadFraction" (by decide +kernel), Res.okb, if_neg (by decide), p "BadPolynomial" (by decide +kernel), Res.okb, Res.okb, if_neg (by decide), p "BadReadings" (by decide +kernel), Res.okb, if_neg (by decide), p "NothingLeft" (by decide +kernel), Res.okb, Res.okb, if_neg (by decide)]
  rw [show qMk a 0 = .err ⟨"BadFraction", []⟩ from if_pos rfl, errb05, tryG_err05 (y := Fl.rt true) rfl rfl, Res.okb]
  rfl
theorem raised_ok (a : Int) : m_law_raised a = .ok true := by
  unfold m_law_raised
  simp only [Res.okb, Res.bind_assoc, Res.bind_ok]
  rw [errb05, tryG_err05 (y := Fl.nx 1) rfl rfl, Res.okb]
  show (Res.ok (1 : Int)).bind _ = _
  rw [Res.okb, errb05, tryG_err05 (y := Fl.nx 2) rfl ?_, Res.okb]
  · rfl
  · show Res.ok (Fl.nx ((1 : Int) + if decide (a = a) = true then 1 else 0)) = _
    rw [if_pos (decide_eq_true rfl)]
    rfl
theorem law_ok (ns : List Int) (hl : ns.length ≤ 63) : m_law ns = .ok true := by
  unfold m_law
  simp only [Res.okb, Res.bind_assoc, Res.bind_ok]
  have pw : powI (10 : Int) (20 : Int) = .ok (10 ^ 20) := powI_ok (y := 20) (by decide) (by decide)
  rw [cell_eq ns 0 (by decide), Res.okb, pw, Res.okb, modI_pos (by decide), Res.okb, cell_eq ns 1 (by decide), Res.okb, Res.okb, modI_pos (by decide), Res.okb]
  have h0 : 0 ≤ ns.getD (0 : Int).toNat 0 % 10 ^ 20 := Int.emod_nonneg _ (by decide)
  generalize ns.getD (0 : Int).toNat 0 % 10 ^ 20 = N at *
  obtain ⟨a, w, e1, e2, w5, wk⟩ := word_ok (k := N % 8) (n := 1 + N / 8 % 5) (Int.emod_nonneg _ (by decide)) (Int.emod_lt_of_pos _ (by decide)) (by have := Int.emod_nonneg (N / 8) (show (5 : Int) ≠ 0 by decide); omega) (by have := Int.emod_lt_of_pos (N / 8) (show (0 : Int) < 5 by decide); omega)
  generalize ns.getD (Int.toNat 1) 0 % 10 ^ 20 - N = M
  have gx : ∀ y : Str, y.length ≤ 5 → Res.guard (w.length + y.length ≤ sizeLine) (Res.ok (w ++ y)) = .ok (w ++ y) := fun y hy => Res.guard_pos (by rw [sizeLine_eq]; omega) _
  have kx : PyData.strOk (w ++ "x") = true := strOk_app wk (by decide +kernel)
  have ky : PyData.strOk (w ++ "y") = true := strOk_app wk (by decide +kernel)
  rw [modI_pos (by decide), Res.okb, e1, Res.okb, fdivI_pos (by decide) (by decide), Res.okb, modI_pos (by decide), Res.okb, e2, Res.okb, without_ok05, Res.okb, if_neg (by decide), raised_ok, Res.okb, if_neg (by decide), numbers_ok, Res.okb, Res.okb, if_neg (by decide), gx "x" (by decide), Res.okb, strings_ok wk kx, Res.okb, if_neg (by decide), gx "y" (by decide), Res.okb, strings_ok ky wk, Res.okb, Res.okb, if_neg (by decide), qMk_okB (by decide), Res.okb, qMk_okB (by decide), Res.okb, pairs_ok]
end L2.Tr

namespace L2.Tr
open PySem PySem.Spec PyProof.Rows He
theorem txt_of {P : Program} {w : World} {K : PySem.W.Frag} {mg : Str → Option Value} {h : Heap} (KX : K.In h) (G : h.Ns mainGlobals mg) (ht : P.given.tree = none) (c : SaysZ fs fnl tbs w K) : Txt P w K mg where
  g_law_cell := glo_of KX G (c.fact 0)
  k_law_cell := (c.fact 1)
  n_int := free_of KX G (c.fact 2)
  g_law_without := glo_of KX G (c.fact 3)
  k_law_without := (c.fact 4)
  g_law_raised := glo_of KX G (c.fact 5)
  k_law_raised := (c.fact 6)
  g_law_numbers := glo_of KX G (c.fact 7)
  k_law_numbers := (c.fact 8)
  g_law_strings := glo_of KX G (c.fact 9)
  k_law_strings := (c.fact 10)
  g_Fraction := glo_of KX G (c.fact 11)
  mk_Fraction := mkr_of (c.fact 12)
  g_law_pairs := glo_of KX G (c.fact 13)
  k_law_pairs := (c.fact 14)
  n_len := free_of KX G (c.fact 15)
  F_law_cell := c.def_ 0
  ex_BadFraction := exc_of KX G (c.fact 16)
  g_law_plain := glo_of KX G (c.fact 17)
  k_law_plain := (c.fact 18)
  ex_BadPolynomial := exc_of KX G (c.fact 19)
  ex_BadReadings := exc_of KX G (c.fact 20)
  ex_NothingLeft := exc_of KX G (c.fact 21)
  g_BadFraction := glo_of KX G (c.fact 22)
  kt_BadFraction_BadFraction := kit_of' (c.fact 23)
  xc_BadFraction := excC_of (c.fact 24)
  n_isinstance := free_of KX G (c.fact 25)
  xcs := excs_of (c.fact 26)
  g_TracerError := glo_of KX G (c.fact 27)
  kts_TracerError := kits_of (c.fact 28)
  n_ValueError := free_of KX G (c.fact 29)
  kts_ValueError := kitsT_of (c.fact 30)
  g_law_classes := glo_of KX G (c.fact 31)
  k_law_classes := (c.fact 32)
  kts_BadFraction := kits_of (c.fact 33)
  g_BadPolynomial := glo_of KX G (c.fact 34)
  kts_BadPolynomial := kits_of (c.fact 35)
  g_BadReadings := glo_of KX G (c.fact 36)
  kts_BadReadings := kits_of (c.fact 37)
  g_NothingLeft := glo_of KX G (c.fact 38)
  kts_NothingLeft := kits_of (c.fact 39)
  g_BadShare := glo_of KX G (c.fact 40)
  kts_BadShare := kits_of (c.fact 41)
  g_BadTick := glo_of KX G (c.fact 42)
  kts_BadTick := kits_of (c.fact 43)
  g_BadRoom := glo_of KX G (c.fact 44)
  kts_BadRoom := kits_of (c.fact 45)
  g_BadWeb := glo_of KX G (c.fact 46)
  kts_BadWeb := kits_of (c.fact 47)
  g_BadLine := glo_of KX G (c.fact 48)
  kts_BadLine := kits_of (c.fact 49)
  g_BadForm := glo_of KX G (c.fact 50)
  kts_BadForm := kits_of (c.fact 51)
  g_BadText := glo_of KX G (c.fact 52)
  kts_BadText := kits_of (c.fact 53)
  g_BadName := glo_of KX G (c.fact 54)
  kts_BadName := kits_of (c.fact 55)
  g_TakenName := glo_of KX G (c.fact 56)
  kts_TakenName := kits_of (c.fact 57)
  g_UnknownName := glo_of KX G (c.fact 58)
  kts_UnknownName := kits_of (c.fact 59)
  g_FullReader := glo_of KX G (c.fact 60)
  kts_FullReader := kits_of (c.fact 61)
  g_Barred := glo_of KX G (c.fact 62)
  kts_Barred := kits_of (c.fact 63)
  g_OutOfRange := glo_of KX G (c.fact 64)
  kts_OutOfRange := kits_of (c.fact 65)
  g_Misfit := glo_of KX G (c.fact 66)
  kts_Misfit := kits_of (c.fact 67)
  g_NoWeb := glo_of KX G (c.fact 68)
  kts_NoWeb := kits_of (c.fact 69)
  F_law_classes := c.def_ 1
  F_law_plain := c.def_ 2
  xm_BadFraction_TracerError := exm_of (c.fact 70)
  n_abs := free_of KX G (c.fact 71)
  F_common_divisor := c.def_ 3
  F_law_without := c.def_ 4
  kt_BadTick_BadTick := kit_of' (c.fact 72)
  xc_BadTick := excC_of (c.fact 73)
  xm_BadTick_TracerError := exm_of (c.fact 74)
  ev_Barred := excV_of KX G (c.fact 75)
  xm_Barred_Barred := exm_of (c.fact 76)
  F_BadTick_init := c.def_ 5
  ev_BadTick := excV_of KX G (c.fact 77)
  F_Barred_init := c.def_ 6
  F_law_raised := c.def_ 7
  ev_BadShare := excV_of KX G (c.fact 78)
  ev_BadRoom := excV_of KX G (c.fact 79)
  ev_BadLine := excV_of KX G (c.fact 80)
  ev_BadText := excV_of KX G (c.fact 81)
  ev_FullReader := excV_of KX G (c.fact 82)
  ev_Misfit := excV_of KX G (c.fact 83)
  ev_NoWeb := excV_of KX G (c.fact 84)
  F_BadShare_init := c.def_ 8
  F_BadRoom_init := c.def_ 9
  F_BadLine_init := c.def_ 10
  F_BadText_init := c.def_ 11
  F_FullReader_init := c.def_ 12
  F_Misfit_init := c.def_ 13
  F_NoWeb_init := c.def_ 14
  F_law_numbers := c.def_ 15
  ev_BadWeb := excV_of KX G (c.fact 85)
  ev_BadForm := excV_of KX G (c.fact 86)
  ev_BadName := excV_of KX G (c.fact 87)
  ev_TakenName := excV_of KX G (c.fact 88)
  ev_UnknownName := excV_of KX G (c.fact 89)
  F_BadWeb_init := c.def_ 16
  F_BadForm_init := c.def_ 17
  F_BadName_init := c.def_ 18
  F_TakenName_init := c.def_ 19
  F_UnknownName_init := c.def_ 20
  F_law_strings := c.def_ 21
  o_Fraction := ocl_of (c.fact 90)
  om_Fraction_eq := omet_of (c.fact 91)
  nf_Fraction := nf_of (c.fact 92)
  ev_OutOfRange := excV_of KX G (c.fact 93)
  F_OutOfRange_init := c.def_ 22
  na_Fraction_bottom := noat_of (c.fact 94)
  na_Fraction_top := noat_of (c.fact 95)
  kT_Fraction_int := kitT_of (c.fact 96)
  kt_Fraction_Fraction := kit_of' (c.fact 97)
  F_Fraction_eq := c.def_ 23
  F_law_pairs := c.def_ 24
  F_law := c.def_ 25
  g_law := glo_of KX G (c.fact 98)
  F_Fraction_init := c.def_ 26
  seer := (c.fact 99)
  g_common_divisor := glo_of KX G (c.fact 100)
  k_common_divisor := (c.fact 101)
  tree := ht
theorem all_of {P : Program} {w : World} {K : PySem.W.Frag} {mg : Str → Option Value} {base : Heap} (T : Txt P w K mg) {fd : FuncData} (F : FunD K "law" "law" (defArgs s_law) (defBody s_law) (defScope s_law) [] [] (He.ga K "law") fd) : FnOk P w K mg base (L2N.CX P w) 39 (He.ga K "law") fd ["_law_script"] (spF K (aCons (rdL K (rp rInt)) aNil) (fun d => m_law d.1) (rp rBl)) := by
  have c_law_cell : C_law_cell P w K mg base := fn_law_cell T
  have c_law_classes : C_law_classes P w K mg base := fn_law_classes T
  have c_law_plain : C_law_plain P w K mg base := fn_law_plain T c_law_classes
  have c_law_classes_vhot : C_law_classes_vhot P w K mg base := fn_law_classes_vhot T
  have c_law_plain_vhot : C_law_plain_vhot P w K mg base := fn_law_plain_vhot T c_law_classes_vhot
  have c_common_divisor : C_common_divisor P w K mg base := FnR.nice (fn_common_divisor T) nice_common_divisor
  have c_Fraction_2 : C_Fraction_2 P w K mg base := fn_Fraction_2 T c_common_divisor
  have c_law_without : C_law_without P w K mg base := fn_law_without T c_law_plain c_Fraction_2 c_law_plain_vhot
  have c_err_BadTick : C_err_BadTick P w K mg base := fn_err_BadTick T
  have c_err_Barred : C_err_Barred P w K mg base := fn_err_Barred T
  have c_law_raised : C_law_raised P w K mg base := fn_law_raised T c_err_BadTick c_err_Barred
  have c_err_BadShare : C_err_BadShare P w K mg base := fn_err_BadShare T
  have c_err_BadRoom : C_err_BadRoom P w K mg base := fn_err_BadRoom T
  have c_err_BadLine : C_err_BadLine P w K mg base := fn_err_BadLine T
  have c_err_BadText : C_err_BadText P w K mg base := fn_err_BadText T
  have c_err_FullReader : C_err_FullReader P w K mg base := fn_err_FullReader T
  have c_err_Misfit : C_err_Misfit P w K mg base := fn_err_Misfit T
  have c_err_NoWeb : C_err_NoWeb P w K mg base := fn_err_NoWeb T
  have c_law_numbers : C_law_numbers P w K mg base := fn_law_numbers T c_err_BadShare c_err_BadTick c_err_BadRoom c_err_BadLine c_law_plain c_err_BadText c_err_FullReader c_err_Misfit c_err_NoWeb
  have c_err_BadWeb : C_err_BadWeb P w K mg base := fn_err_BadWeb T
  have c_err_BadForm : C_err_BadForm P w K mg base := fn_err_BadForm T
  have c_err_BadName : C_err_BadName P w K mg base := fn_err_BadName T
  have c_err_TakenName : C_err_TakenName P w K mg base := fn_err_TakenName T
  have c_err_UnknownName : C_err_UnknownName P w K mg base := fn_err_UnknownName T
  have c_law_strings : C_law_strings P w K mg base := fn_law_strings T c_err_BadWeb c_err_BadForm c_err_BadName c_law_plain c_err_TakenName c_err_UnknownName
  have c_err_OutOfRange : C_err_OutOfRange P w K mg base := fn_err_OutOfRange T
  have c_Fraction_eq : C_Fraction_eq P w K mg base := FnR.nice (fn_Fraction_eq T) nice_Fraction_eq
  have c_law_pairs : C_law_pairs P w K mg base := fn_law_pairs T c_err_Barred c_err_OutOfRange c_Fraction_eq c_law_plain
  exact fn_law T c_law_cell c_law_without c_law_raised c_law_numbers c_law_strings c_Fraction_2 c_law_pairs F
theorem law_end {P : Program} {w : World} {K : PySem.W.Frag} {mg : Str → Option Value} {h : Heap} {fa : Addr} (KX : K.In h) (hmg : mg ("law" : Str) = some (.ref fa)) (T : Txt P w K mg) :
    ∃ (K : PySem.W.Frag) (fd : FuncData) (sp : Sp), K.In h ∧ (∀ (s : Shared) (u : Value), BindsTo s fd ⟨[u], []⟩ [(("_law_script" : Str), u)]) ∧
        (∀ (H : Hp) (a : Addr) (ns : List Int), ns.length ≤ 63 → Only H → SqL K H a (ns.map V.int) → sp [.ref a] H (fun v _ => v = .bl true) fun _ _ _ => False) ∧
        ∀ base : Heap, K.In base → base.Ns mainGlobals mg → FnOk P w K mg base CX0 39 fa fd ["_law_script"] sp := by
  obtain ⟨fd, F⟩ := T.F_law
  have e := hmg.symm.trans T.g_law
  cases e
  have b := FunD.bindsA (ps := ["_law_script"]) F fun _ _ _ _ _ _ us hl => match us, hl with | [_], _ => rfl
  refine ⟨K, fd, (fun vs H Q _ => spF K (aCons (rdL K (rp rInt)) aNil) (fun d => m_law d.1) (rp rBl) vs H Q fun _ _ _ => False), KX, fun s u => b s [u] rfl, fun H a ns hl _ hS => ⟨fun _ => none, (ns, ()), (fun b o e => nomatch e), ⟨.ref a, [], rfl, ⟨a, ns.map V.int, rfl, hS, paired_ints _ _ ns⟩, rfl⟩, ?_⟩, fun base _ _ => FnOk.no (all_of T F)⟩
  show PostE K (m_law ns) _ _ _ _ _
  rw [law_ok ns hl]
  exact fun I' H' v _ r => r
end L2.Tr
open PySem PySem.W PySem.Calls PyProof.Rows
set_option maxHeartbeats 0 in
theorem PySem.Challenge.cw_tracerline_k05_errors_holds : PySem.Challenge.rw_tracerline_k05_errors.Holds := by
  w_on; o_law
  refine HandSHeadRun.head_any (r := OpenLaw.row PySem.Challenge.rw_tracerline_k05_errors) (q := view (OpenLaw.row PySem.Challenge.rw_tracerline_k05_errors).prog [34]) (H := L2.Tr.hk) (ob := L2.Tr.ob) (M := 20000) (loose := L2.Tr.names) (d := HandSHeadRun.topDef (OpenLaw.row PySem.Challenge.rw_tracerline_k05_errors).prog 34) (kwd := []) L2.Tr.ob_eq
    (by kernel_rfl) (fun s => by kernel_rfl) L2.Tr.run (by kernel_rfl) (by kernel_rfl) (by kernel_rfl) (by rfl) (by first | assumption | decide +kernel) (by decide +kernel) ⟨rfl, rfl, rfl, rfl, rfl, by decide +kernel⟩ ?hw ?hc
  case hw => w_witness2
  case hc =>
    refine L2.walk_ofE (l := PySem.Challenge.rw_tracerline_k05_errors) (n := 63) (k := 39) (x := "_law_script") (CX := L2.CX0) rfl (by decide) (by kernel_rfl) ⟨rfl, by decide, by decide⟩ ?F (fun _ _ _ _ z => z)
    intro w mg fa h Y G hmg0
    obtain ⟨K, KX, c⟩ := Y
    have hmg : mg ("law" : PySem.Str) = some (.ref fa) := by
      have e : (HandSHeadRun.topDef (OpenLaw.row PySem.Challenge.rw_tracerline_k05_errors).prog 34).name = ("law" : PySem.Str) := by kernel_rfl
      rw [← e]
      exact hmg0
    have T := L2.Tr.txt_of (P := (PySem.Challenge.rw_tracerline_k05_errors).prog) KX G (by kernel_rfl) c
    exact L2.Tr.law_end (P := (PySem.Challenge.rw_tracerline_k05_errors).prog) (w := w) KX hmg T

