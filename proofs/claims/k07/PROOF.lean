import PyProof.Rows.All
import Wide.All
import OpenK.AllK
import Wide.FinOn
import HandS.ForMost
import HandS.Flow
import HandS.Style
import HandS.MakeKwOnly
import HandS.DictComp
import HandS.FStr
import HandS.IsInst
import HandS.OwnEq
import HandS.RaiseMore
import HandS.EndBits
import HandS.Evl
import PyProof.Rows.StrRev
import PyProof.ReprRoads
import PyProof.CollectStr
import HandS.Exc
import HandS.ExcInit
import HandS.WordsExc
import HandS.CallSlots
import HandS.More
import KE.KExcInit
import KE.KExcIs
import KE.KExcHand
import HandS.Wide
import HandS.Small
import HandS.Defaults
import HandS.StrMore
import KE.KUnpackStar
import HandS.TupAny
import KE.KCallOwn
import PyProof.FactsLen
import PyProof.CallFns
import PyProof.Conv_bool
import HandS.DictSub
import HandS.TupMul
import PyProof.StrOps2
import KE.KRevSl
import HandS.SortInts
import PyProof.TupleOfSeq
import KE.GoesZip
import KE.GoesEnumKw
import HandS.Zip
import PyProof.Rows.CallKwBuiltin
import HandS.SortKw
import HandS.Lambda
import HandS.Strs
import HandS.Deep
import HandS.Rev
import HandS.Conv
import HandS.Dict
import HandS.New0
import HandS.Proxy
import HandS.IterVal
import KE.KTryMore
import PyProof.NeKinds
import KE.KEqDict
import KE.DataEq
import KE.GoesMore
import KE.KIntText
import PyProof.Rows.StrFromFirst
import PyProof.Rows.StrFirst
import HandS.Head0
import HandS.Head1
import HandS.Head2
import HandS.HeadHook4
import PySem.Challenge.RW_cellranks_k07_arrays_read_and_refused
import PyProof.Rows.StrDigitsNeg
import PyProof.StrBlockL
import HandS.ExcIs
import KE.KExcLine
set_option Elab.async false
set_option linter.all false
set_option maxRecDepth 100000
set_option maxHeartbeats 0
namespace Hd
open PySem PySem.Spec PyProof.Rows L2
def intC (K : PySem.W.Frag) (x : Str) (i : Int) : Bool := match PySem.W.nsIn K mainGlobals x with
  | some (some (.int j _)) => decide (j = i)
  | _ => false
def strC (K : PySem.W.Frag) (x z : Str) : Bool := match PySem.W.nsIn K mainGlobals x with
  | some (some (.str y _)) => decide (y = z)
  | _ => false
def limC (K : PySem.W.Frag) : Bool := match K.lookup cStatics with
  | some ⟨_, _, .dict es _, _⟩ => es.toList.all (fun e => match e.key with
    | .str _ _ => true
    | _ => false) && (nsFind es (Str.ofString "sys.int_max_str_digits")).isNone
  | _ => false
def valC (K : PySem.W.Frag) (c m : Value) (n : Str) (v : Value) : Bool := match PySem.W.findCls K c m n with
  | some (.val u) => decide (u = v)
  | _ => false
def atL : List Addr → Nat → Addr
  | [], _ => 0
  | a :: _, 0 => a
  | _ :: r, n + 1 => atL r n
def frL {α : Type} : List Addr → (List Addr → α) → α
  | [], k => k []
  | a :: r, k => HandSHeadRun.frNat a fun a => frL r fun r => k (a :: r)
theorem frL_eq {α : Type} : ∀ (l : List Addr) (k : List Addr → α), frL l k = k l
  | [], k => rfl
  | a :: r, k => by
    show (HandSHeadRun.frNat a fun a => frL r fun r => k (a :: r)) = _
    rw [HandSHeadRun.frNat_eq, frL_eq r]
def frK {α : Type} : PySem.W.Frag → (PySem.W.Frag → α) → α
  | [], k => k []
  | (a, o) :: r, k => HandSHeadRun.frNat a fun a => frK r fun r => k ((a, o) :: r)
theorem frK_eq {α : Type} : ∀ (l : PySem.W.Frag) (k : PySem.W.Frag → α), frK l k = k l
  | [], k => rfl
  | (a, o) :: r, k => by
    show (HandSHeadRun.frNat a fun a => frK r fun r => k ((a, o) :: r)) = _
    rw [HandSHeadRun.frNat_eq, frK_eq r]
def rf : Value → Addr
  | .ref a => a
  | _ => 0
def mainV (g : Addr → Option Obj) : List Addr := match g mainGlobals with
  | some ⟨_, _, .dict es _, _⟩ => es.toList.map fun e => rf e.val
  | _ => []
def nsA (g : Addr → Option Obj) (C : Addr) : Addr := match g C with
  | some ⟨_, _, .cls cd, _⟩ => cd.ns
  | _ => 0
def metA (g : Addr → Option Obj) (C : Addr) (m : Str) : Addr := match g (nsA g C) with
  | some ⟨_, _, .dict es _, _⟩ => (match es.toList.find? (·.key.isStr m) with
    | some e => rf e.val
    | none => 0)
  | _ => 0
def fnA (g : Addr → Option Obj) (kw : Bool) (f : Addr) : List Addr := match g f with
  | some ⟨_, _, .func fd, _⟩ => (match kw with
    | true => [f, rf fd.code, rf fd.kwdefaults]
    | false => [f, rf fd.code])
  | _ => []
structure Df where
  at_ : Nat
  name : Str
  qual : Str
  params : Arguments
  body : List Stmt
  scope : Scope
  kwd : List (Str × He.Dv)
structure Top where
  cls : List Nat
  met : List (Nat × Str)
  obj : List Nat
  fns : List Df
  ts : List (Nat × List Str)
  ex : List Addr → PySem.W.Frag → Bool
def fnV (K : PySem.W.Frag) (a : Addr) : He.FnW := match K.lookup a with
  | some ⟨_, _, .func fd, _⟩ => some (fd.name, fd.qualname, fd.params, fd.body, fd.scope, fd.globals, fd.closure, fd.builtins)
  | _ => none
def Df.val (d : Df) : He.FnW := some (d.name, d.qual, d.params, .stmts d.body, d.scope, mainGlobals, [], builtinsNs)
def Df.kws (d : Df) (K : PySem.W.Frag) : List (Str × V) := d.kwd.map fun q => (q.1, q.2.v K)
def Df.ok (d : Df) (L : List Addr) (K : PySem.W.Frag) : Bool := PySem.W.keepIn K (.ref (atL L d.at_)) && (match K.lookup (atL L d.at_) with
  | some ⟨_, _, .func fd, _⟩ => PySem.W.codeIn K fd.code d.qual && (He.dflB K fd.defaults [] && He.kwdB K fd.kwdefaults (d.kws K))
  | _ => false)
abbrev AlM : Type := List He.FnW × List (Option (List (Option (Str × Int)))) × Bool
def Top.asL (t : Top) (g : Addr → Option Obj) (L : List Addr) : List Addr :=
  mainGlobals :: cStatics :: (t.cls.flatMap (fun c => [atL L c, nsA g (atL L c)]) ++ (t.obj.map (atL L) ++ t.fns.flatMap fun d => fnA g (!d.kwd.isEmpty) (atL L d.at_)))
def Top.see (t : Top) (L : List Addr) (K : PySem.W.Frag) : AlM := (t.fns.map (fun d => fnV K (atL L d.at_)), t.ts.map (fun q => He.dicW K (atL L q.1)), (t.fns.all fun d => d.ok L K) && t.ex L K)
def Top.obs (t : Top) (g : Addr → Option Obj) : AlM :=
  frL (mainV g) fun L0 => frL (L0 ++ t.met.map fun q => metA g (atL L0 q.1) q.2) fun L => frL (t.asL g L) fun as => frK (He.frG g as) fun K => t.see L K
def Top.val (t : Top) (w : World) : AlM := (t.fns.map Df.val, t.ts.map (fun q => some (He.keysIn w.params q.2)), true)
def Top.hook (t : Top) : PySem.W.Hook where
  α := AlM
  obs := fun s => t.obs s.heap.get?
  val := fun w => t.val w
  says := fun w h => ∃ (L : List Addr) (K : PySem.W.Frag), K.In h ∧ t.see L K = t.val w
  of := fun _ s e => by
    unfold Top.obs at e
    rw [frL_eq, frL_eq, frL_eq, frK_eq] at e
    exact ⟨_, _, He.frG_in, e⟩
  keeps := fun _ _ _ ⟨L, K, hK, c⟩ k => ⟨L, K, PySem.W.Frag.In.keeps hK k, c⟩
theorem Top.obs_eq (t : Top) {g : Addr → Option Obj} {s : Shared} (h : ∀ a, g a = s.heap.get? a) : t.obs g = t.hook.obs s := by
  have e : g = s.heap.get? := funext h
  rw [e] <;> rfl
end Hd
namespace Cr
open PySem L2
def topS (i : Nat) : Stmt := PySem.Challenge.pw_cellranks_k07_arrays_read_and_refused.main.body.getD i (.Pass ⟨0, 0, 0, 0⟩)
abbrev s_Array___init__ : Stmt := inClass (topS 20) 0
abbrev s_Array___eq__ : Stmt := inClass (topS 20) 1
abbrev s_Array___str__ : Stmt := inClass (topS 20) 3
abbrev s_Array___repr__ : Stmt := inClass (topS 20) 4
abbrev s_NoText___init__ : Stmt := inClass (topS 4) 0
abbrev s_is_whole : Stmt := topS 10
abbrev s_is_from : Stmt := topS 11
abbrev s_whole_in : Stmt := topS 12
abbrev s_is_shape : Stmt := topS 16
abbrev s_count : Stmt := topS 17
abbrev s_shape_in : Stmt := topS 21
abbrev s_read_array : Stmt := topS 22
abbrev s__law_feed : Stmt := topS 24
abbrev s__law_draw : Stmt := topS 25
abbrev s__law_of : Stmt := topS 26
abbrev s__law_count : Stmt := topS 27
abbrev s__law_number : Stmt := topS 28
abbrev s__law_base : Stmt := topS 29
abbrev s__law_array_text : Stmt := topS 30
abbrev s__law_is_board : Stmt := topS 31
abbrev s__law_great : Stmt := topS 32
abbrev s__law_figures : Stmt := topS 33
abbrev s__law_read : Stmt := topS 34
abbrev s__law_spoilt : Stmt := topS 35
abbrev s__law_told : Stmt := topS 36
abbrev s_law : Stmt := topS 37
end Cr
namespace Hd
open PySem PySem.Spec PyProof.Rows L2 Cr
def d0 : Df := ⟨17, "is_whole", "is_whole", defArgs s_is_whole, defBody s_is_whole, defScope s_is_whole, []⟩
def d1 : Df := ⟨18, "is_from", "is_from", defArgs s_is_from, defBody s_is_from, defScope s_is_from, []⟩
def d2 : Df := ⟨19, "whole_in", "whole_in", defArgs s_whole_in, defBody s_whole_in, defScope s_whole_in, []⟩
def d3 : Df := ⟨22, "is_shape", "is_shape", defArgs s_is_shape, defBody s_is_shape, defScope s_is_shape, []⟩
def d4 : Df := ⟨23, "count", "count", defArgs s_count, defBody s_count, defScope s_count, []⟩
def d5 : Df := ⟨27, "shape_in", "shape_in", defArgs s_shape_in, defBody s_shape_in, defScope s_shape_in, []⟩
def d6 : Df := ⟨28, "read_array", "read_array", defArgs s_read_array, defBody s_read_array, defScope s_read_array, []⟩
def d7 : Df := ⟨29, "_law_feed", "_law_feed", defArgs s__law_feed, defBody s__law_feed, defScope s__law_feed, []⟩
def d8 : Df := ⟨30, "_law_draw", "_law_draw", defArgs s__law_draw, defBody s__law_draw, defScope s__law_draw, []⟩
def d9 : Df := ⟨31, "_law_of", "_law_of", defArgs s__law_of, defBody s__law_of, defScope s__law_of, []⟩
def d10 : Df := ⟨32, "_law_count", "_law_count", defArgs s__law_count, defBody s__law_count, defScope s__law_count, []⟩
def d11 : Df := ⟨33, "_law_number", "_law_number", defArgs s__law_number, defBody s__law_number, defScope s__law_number, []⟩
def d12 : Df := ⟨34, "_law_base", "_law_base", defArgs s__law_base, defBody s__law_base, defScope s__law_base, []⟩
def d13 : Df := ⟨35, "_law_array_text", "_law_array_text", defArgs s__law_array_text, defBody s__law_array_text, defScope s__law_array_text, []⟩
def d14 : Df := ⟨36, "_law_is_board", "_law_is_board", defArgs s__law_is_board, defBody s__law_is_board, defScope s__law_is_board, []⟩
def d15 : Df := ⟨37, "_law_great", "_law_great", defArgs s__law_great, defBody s__law_great, defScope s__law_great, []⟩
def d16 : Df := ⟨38, "_law_figures", "_law_figures", defArgs s__law_figures, defBody s__law_figures, defScope s__law_figures, []⟩
def d17 : Df := ⟨39, "_law_read", "_law_read", defArgs s__law_read, defBody s__law_read, defScope s__law_read, []⟩
def d18 : Df := ⟨40, "_law_spoilt", "_law_spoilt", defArgs s__law_spoilt, defBody s__law_spoilt, defScope s__law_spoilt, []⟩
def d19 : Df := ⟨41, "_law_told", "_law_told", defArgs s__law_told, defBody s__law_told, defScope s__law_told, []⟩
def d20 : Df := ⟨42, "law", "law", defArgs s_law, defBody s_law, defScope s_law, []⟩
def d21 : Df := ⟨43, "__init__", "Array.__init__", defArgs s_Array___init__, defBody s_Array___init__, defScope s_Array___init__, []⟩
def d22 : Df := ⟨44, "__eq__", "Array.__eq__", defArgs s_Array___eq__, defBody s_Array___eq__, defScope s_Array___eq__, []⟩
def d23 : Df := ⟨45, "__str__", "Array.__str__", defArgs s_Array___str__, defBody s_Array___str__, defScope s_Array___str__, []⟩
def d24 : Df := ⟨46, "__repr__", "Array.__repr__", defArgs s_Array___repr__, defBody s_Array___repr__, defScope s_Array___repr__, []⟩
def d25 : Df := ⟨47, "__init__", "NoText.__init__", defArgs s_NoText___init__, defBody s_NoText___init__, defScope s_NoText___init__, []⟩
def e0 (L : List Addr) (K : PySem.W.Frag) : Bool := intC K "MOST_AXES" 6
def e1 (L : List Addr) (K : PySem.W.Frag) : Bool := intC K "MOST_SIZE" 4000
def e2 (L : List Addr) (K : PySem.W.Frag) : Bool := intC K "MOST_FIGURES" 4000
def e3 (L : List Addr) (K : PySem.W.Frag) : Bool := strC K "FIGURES" "0123456789"
def e4 (L : List Addr) (K : PySem.W.Frag) : Bool := decide (PySem.W.nsIn K mainGlobals "is_whole" = some (some (.ref (atL L 17))))
def e5 (L : List Addr) (K : PySem.W.Frag) : Bool := decide (PySem.W.nsIn K mainGlobals "is_from" = some (some (.ref (atL L 18))))
def e6 (L : List Addr) (K : PySem.W.Frag) : Bool := decide (PySem.W.nsIn K mainGlobals "whole_in" = some (some (.ref (atL L 19))))
def e7 (L : List Addr) (K : PySem.W.Frag) : Bool := decide (PySem.W.nsIn K mainGlobals "is_shape" = some (some (.ref (atL L 22))))
def e8 (L : List Addr) (K : PySem.W.Frag) : Bool := decide (PySem.W.nsIn K mainGlobals "count" = some (some (.ref (atL L 23))))
def e9 (L : List Addr) (K : PySem.W.Frag) : Bool := decide (PySem.W.nsIn K mainGlobals "shape_in" = some (some (.ref (atL L 27))))
def e10 (L : List Addr) (K : PySem.W.Frag) : Bool := decide (PySem.W.nsIn K mainGlobals "read_array" = some (some (.ref (atL L 28))))
def e11 (L : List Addr) (K : PySem.W.Frag) : Bool := decide (PySem.W.nsIn K mainGlobals "_law_feed" = some (some (.ref (atL L 29))))
def e12 (L : List Addr) (K : PySem.W.Frag) : Bool := decide (PySem.W.nsIn K mainGlobals "_law_draw" = some (some (.ref (atL L 30))))
def e13 (L : List Addr) (K : PySem.W.Frag) : Bool := decide (PySem.W.nsIn K mainGlobals "_law_of" = some (some (.ref (atL L 31))))
def e14 (L : List Addr) (K : PySem.W.Frag) : Bool := decide (PySem.W.nsIn K mainGlobals "_law_count" = some (some (.ref (atL L 32))))
def e15 (L : List Addr) (K : PySem.W.Frag) : Bool := decide (PySem.W.nsIn K mainGlobals "_law_number" = some (some (.ref (atL L 33))))
def e16 (L : List Addr) (K : PySem.W.Frag) : Bool := decide (PySem.W.nsIn K mainGlobals "_law_base" = some (some (.ref (atL L 34))))
def e17 (L : List Addr) (K : PySem.W.Frag) : Bool := decide (PySem.W.nsIn K mainGlobals "_law_array_text" = some (some (.ref (atL L 35))))
def e18 (L : List Addr) (K : PySem.W.Frag) : Bool := decide (PySem.W.nsIn K mainGlobals "_law_is_board" = some (some (.ref (atL L 36))))
def e19 (L : List Addr) (K : PySem.W.Frag) : Bool := decide (PySem.W.nsIn K mainGlobals "_law_great" = some (some (.ref (atL L 37))))
def e20 (L : List Addr) (K : PySem.W.Frag) : Bool := decide (PySem.W.nsIn K mainGlobals "_law_figures" = some (some (.ref (atL L 38))))
def e21 (L : List Addr) (K : PySem.W.Frag) : Bool := decide (PySem.W.nsIn K mainGlobals "_law_read" = some (some (.ref (atL L 39))))
def e22 (L : List Addr) (K : PySem.W.Frag) : Bool := decide (PySem.W.nsIn K mainGlobals "_law_spoilt" = some (some (.ref (atL L 40))))
def e23 (L : List Addr) (K : PySem.W.Frag) : Bool := decide (PySem.W.nsIn K mainGlobals "_law_told" = some (some (.ref (atL L 41))))
def e24 (L : List Addr) (K : PySem.W.Frag) : Bool := decide (PySem.W.nsIn K mainGlobals "law" = some (some (.ref (atL L 42))))
def e25 (L : List Addr) (K : PySem.W.Frag) : Bool := decide (PySem.W.nsIn K mainGlobals "Array" = some (some (.ref (atL L 26))))
def e26 (L : List Addr) (K : PySem.W.Frag) : Bool := decide (PySem.W.findIn K (.ref (atL L 26)) "__init__" = some (some (.ref (atL L 43))))
def e27 (L : List Addr) (K : PySem.W.Frag) : Bool := decide (PySem.W.isFn K (.ref (atL L 43)) = true)
def e28 (L : List Addr) (K : PySem.W.Frag) : Bool := decide (PySem.W.findIn K (.ref (atL L 26)) "__eq__" = some (some (.ref (atL L 44))))
def e29 (L : List Addr) (K : PySem.W.Frag) : Bool := decide (PySem.W.isFn K (.ref (atL L 44)) = true)
def e30 (L : List Addr) (K : PySem.W.Frag) : Bool := decide (PySem.W.findIn K (.ref (atL L 26)) "__str__" = some (some (.ref (atL L 45))))
def e31 (L : List Addr) (K : PySem.W.Frag) : Bool := decide (PySem.W.isFn K (.ref (atL L 45)) = true)
def e32 (L : List Addr) (K : PySem.W.Frag) : Bool := decide (PySem.W.findIn K (.ref (atL L 26)) "__repr__" = some (some (.ref (atL L 46))))
def e33 (L : List Addr) (K : PySem.W.Frag) : Bool := decide (PySem.W.isFn K (.ref (atL L 46)) = true)
def e34 (L : List Addr) (K : PySem.W.Frag) : Bool := decide (PySem.W.plainGet K (atL L 26) Str.empty = true)
def e35 (L : List Addr) (K : PySem.W.Frag) : Bool := decide (PySem.W.hasDictIn K (atL L 26) = true)
def e36 (L : List Addr) (K : PySem.W.Frag) : Bool := decide (PySem.W.plainOver K (atL L 26) = true)
def e37 (L : List Addr) (K : PySem.W.Frag) : Bool := decide (PySem.W.findIn K (.ref (atL L 26)) "__setattr__" = some (some (.builtin "object.__setattr__")))
def e38 (L : List Addr) (K : PySem.W.Frag) : Bool := decide (PySem.W.makesIn K (atL L 26) = true)
def e39 (L : List Addr) (K : PySem.W.Frag) : Bool := decide (PySem.W.keepIn K (.ref (atL L 26)) = true)
def e40 (L : List Addr) (K : PySem.W.Frag) : Bool := decide (PySem.W.findIn K (.ref (atL L 26)) "__ne__" = some (some (.builtin "object.__ne__")))
def e41 (L : List Addr) (K : PySem.W.Frag) : Bool := decide (PySem.W.mroIn K (atL L 26) (.type "object") = some true)
def e42 (L : List Addr) (K : PySem.W.Frag) : Bool := decide (PySem.W.mroIn K (atL L 26) (.type "list") = some false)
def e43 (L : List Addr) (K : PySem.W.Frag) : Bool := decide (PySem.W.mroIn K (atL L 26) (.type "tuple") = some false)
def e44 (L : List Addr) (K : PySem.W.Frag) : Bool := decide (PySem.W.mroIn K (atL L 26) (.type "dict") = some false)
def e45 (L : List Addr) (K : PySem.W.Frag) : Bool := decide (PySem.W.mroIn K (atL L 26) (.type "str") = some false)
def e46 (L : List Addr) (K : PySem.W.Frag) : Bool := decide (PySem.W.mroIn K (atL L 26) (.type "int") = some false)
def e47 (L : List Addr) (K : PySem.W.Frag) : Bool := decide (PySem.W.mroIn K (atL L 26) (.type "bool") = some false)
def e48 (L : List Addr) (K : PySem.W.Frag) : Bool := decide (PySem.W.mroIn K (atL L 26) (.type "NoneType") = some false)
def e49 (L : List Addr) (K : PySem.W.Frag) : Bool := decide (PySem.W.findIn K (.ref (atL L 26)) "__class__" = some (some (.builtin "object.__class__")))
def e50 (L : List Addr) (K : PySem.W.Frag) : Bool := decide (PySem.W.specialIn K (.builtin "object.__class__") "__get__" = some (some (.builtin "getset_descriptor.__get__")))
def e51 (L : List Addr) (K : PySem.W.Frag) : Bool := decide (PySem.W.takesIn K (.builtin "object.__class__") = some true)
def e52 (L : List Addr) (K : PySem.W.Frag) : Bool := decide (PySem.W.isClsIn K (atL L 26) = true)
def e53 (L : List Addr) (K : PySem.W.Frag) : Bool := decide (PySem.W.typeIn K (.ref (atL L 26)) = some (.type "type"))
def e54 (L : List Addr) (K : PySem.W.Frag) : Bool := decide (PySem.W.findIn K (.ref (atL L 26)) "shape" = some none)
def e55 (L : List Addr) (K : PySem.W.Frag) : Bool := decide (PySem.W.findIn K (.ref (atL L 26)) "cells" = some none)
def e56 (L : List Addr) (K : PySem.W.Frag) : Bool := decide (PySem.W.nsIn K mainGlobals "NoText" = some (some (.ref (atL L 12))))
def e57 (L : List Addr) (K : PySem.W.Frag) : Bool := decide (PySem.W.findIn K (.ref (atL L 12)) "__init__" = some (some (.ref (atL L 47))))
def e58 (L : List Addr) (K : PySem.W.Frag) : Bool := decide (PySem.W.isFn K (.ref (atL L 47)) = true)
def e59 (L : List Addr) (K : PySem.W.Frag) : Bool := decide (PySem.W.excInitIn K (atL L 12) [.type "ValueError", .type "Exception", .type "BaseException", .type "object"] "ValueError.__new__" = true)
def e60 (L : List Addr) (K : PySem.W.Frag) : Bool := decide (PySem.W.excOver K (atL L 12) [.type "ValueError", .type "Exception", .type "BaseException", .type "object"] = true)
def e61 (L : List Addr) (K : PySem.W.Frag) : Bool := decide (PySem.W.hasDictIn K (atL L 12) = true)
def e62 (L : List Addr) (K : PySem.W.Frag) : Bool := decide (PySem.W.findIn K (.ref (atL L 12)) "__setattr__" = some (some (.builtin "object.__setattr__")))
def e63 (L : List Addr) (K : PySem.W.Frag) : Bool := decide (PySem.W.findIn K (.ref (atL L 12)) "__getattribute__" = some (some (.builtin "BaseException.__getattribute__")))
def e64 (L : List Addr) (K : PySem.W.Frag) : Bool := decide (PySem.W.findIn K (.ref (atL L 12)) "__getattr__" = some none)
def e65 (L : List Addr) (K : PySem.W.Frag) : Bool := decide (PySem.W.subIn K (.ref (atL L 12)) (.type "BaseException") = some true)
def e66 (L : List Addr) (K : PySem.W.Frag) : Bool := decide (PySem.W.keepIn K (.ref (atL L 12)) = true)
def e67 (L : List Addr) (K : PySem.W.Frag) : Bool := decide (PySem.W.mroIn K (atL L 12) (.type "object") = some true)
def e68 (L : List Addr) (K : PySem.W.Frag) : Bool := decide (PySem.W.subIn K (.ref (atL L 12)) (.ref (atL L 12)) = some true)
def e69 (L : List Addr) (K : PySem.W.Frag) : Bool := decide (PySem.W.findIn K (.ref (atL L 12)) "__class__" = some (some (.builtin "object.__class__")))
def e70 (L : List Addr) (K : PySem.W.Frag) : Bool := decide (PySem.W.specialIn K (.builtin "object.__class__") "__get__" = some (some (.builtin "getset_descriptor.__get__")))
def e71 (L : List Addr) (K : PySem.W.Frag) : Bool := decide (PySem.W.takesIn K (.builtin "object.__class__") = some true)
def e72 (L : List Addr) (K : PySem.W.Frag) : Bool := decide (PySem.W.isClsIn K (atL L 12) = true)
def e73 (L : List Addr) (K : PySem.W.Frag) : Bool := decide (PySem.W.typeIn K (.ref (atL L 12)) = some (.type "type"))
def e74 (L : List Addr) (K : PySem.W.Frag) : Bool := decide (PySem.W.findIn K (.ref (atL L 12)) "text" = some none)
def e75 (L : List Addr) (K : PySem.W.Frag) : Bool := decide (PySem.W.nsIn K mainGlobals "NoShape" = some (some (.ref (atL L 10))))
def e76 (L : List Addr) (K : PySem.W.Frag) : Bool := decide (PySem.W.nsIn K mainGlobals "Miscount" = some (some (.ref (atL L 11))))
def e77 (L : List Addr) (K : PySem.W.Frag) : Bool := decide (PySem.W.nsIn K mainGlobals "NoTree" = some (some (.ref (atL L 13))))
def e78 (L : List Addr) (K : PySem.W.Frag) : Bool := decide (PySem.W.nsIn K mainGlobals "len" = some none)
def e79 (L : List Addr) (K : PySem.W.Frag) : Bool := decide (PySem.W.nsIn K mainGlobals "list" = some none)
def e80 (L : List Addr) (K : PySem.W.Frag) : Bool := decide (PySem.W.nsIn K mainGlobals "range" = some none)
def e81 (L : List Addr) (K : PySem.W.Frag) : Bool := decide (PySem.W.nsIn K mainGlobals "isinstance" = some none)
def e82 (L : List Addr) (K : PySem.W.Frag) : Bool := decide (PySem.W.nsIn K mainGlobals "int" = some none)
def e83 (L : List Addr) (K : PySem.W.Frag) : Bool := decide (PySem.W.nsIn K mainGlobals "bool" = some none)
def e84 (L : List Addr) (K : PySem.W.Frag) : Bool := decide (PySem.W.nsIn K mainGlobals "str" = some none)
def e85 (L : List Addr) (K : PySem.W.Frag) : Bool := decide (PySem.W.nsIn K mainGlobals "tuple" = some none)
def e86 (L : List Addr) (K : PySem.W.Frag) : Bool := decide (PySem.W.nsIn K mainGlobals "dict" = some none)
def e87 (L : List Addr) (K : PySem.W.Frag) : Bool := decide (PySem.W.nsIn K mainGlobals "all" = some none)
def e88 (L : List Addr) (K : PySem.W.Frag) : Bool := decide (PySem.W.nsIn K mainGlobals "abs" = some none)
def e89 (L : List Addr) (K : PySem.W.Frag) : Bool := decide (PySem.W.nsIn K mainGlobals "repr" = some none)
def e90 (L : List Addr) (K : PySem.W.Frag) : Bool := decide (PySem.W.nsIn K mainGlobals "max" = some none)
def e91 (L : List Addr) (K : PySem.W.Frag) : Bool := decide (PySem.W.nsIn K mainGlobals "min" = some none)
def e92 (L : List Addr) (K : PySem.W.Frag) : Bool := decide (PySem.W.nsIn K mainGlobals "enumerate" = some none)
def e93 (L : List Addr) (K : PySem.W.Frag) : Bool := decide (PySem.W.nsIn K mainGlobals "zip" = some none)
def e94 (L : List Addr) (K : PySem.W.Frag) : Bool := decide (PySem.W.nsIn K mainGlobals "reversed" = some none)
def e95 (L : List Addr) (K : PySem.W.Frag) : Bool := decide (PySem.W.nsIn K mainGlobals "sorted" = some none)
def e96 (L : List Addr) (K : PySem.W.Frag) : Bool := decide (PySem.W.nsIn K mainGlobals "sum" = some none)
def e97 (L : List Addr) (K : PySem.W.Frag) : Bool := decide (PySem.W.nsIn K mainGlobals "any" = some none)
def e98 (L : List Addr) (K : PySem.W.Frag) : Bool := decide (PySem.W.nsIn K mainGlobals "ValueError" = some none)
def e99 (L : List Addr) (K : PySem.W.Frag) : Bool := valC K (.type "ValueError") (.type "type") "__init__" (.builtin "ValueError.__init__")
def e100 (L : List Addr) (K : PySem.W.Frag) : Bool := decide (∀ n ∈ (["NoneType", "bool", "int", "str", "list", "tuple", "dict"] : List String), PySem.W.notFirst K (atL L 26) (.type n) = true)
def e101 (L : List Addr) (K : PySem.W.Frag) : Bool := decide (∀ n ∈ (["NoneType", "bool", "int", "str", "list", "tuple", "dict"] : List String), PySem.W.kitOne K (.type n) (.ref (atL L 26)) = some false)
def e102 (L : List Addr) (K : PySem.W.Frag) : Bool := decide (PySem.W.findIn K (.ref (atL L 26)) "__bool__" = some none)
def e103 (L : List Addr) (K : PySem.W.Frag) : Bool := decide (PySem.W.exmAny K (.ref (atL L 12)) [.ref (atL L 12)] = some true)
def e104 (L : List Addr) (K : PySem.W.Frag) : Bool := decide (PySem.W.kitOne K (.ref (atL L 12)) (.type "ValueError") = some true)
def e105 (L : List Addr) (K : PySem.W.Frag) : Bool := decide (PySem.W.kitAny K (.ref (atL L 12)) [.ref (atL L 10), .ref (atL L 11), .ref (atL L 13)] = some false)
def e106 (L : List Addr) (K : PySem.W.Frag) : Bool := limC K
def exs : List (List Addr → PySem.W.Frag → Bool) := ([e0, e1, e2, e3, e4, e5, e6, e7, e8, e9, e10, e11, e12, e13, e14, e15, e16, e17, e18, e19] : List (List Addr → PySem.W.Frag → Bool)) ++ ([e20, e21, e22, e23, e24, e25, e26, e27, e28, e29, e30, e31, e32, e33, e34, e35, e36, e37, e38, e39] : List (List Addr → PySem.W.Frag → Bool)) ++ ([e40, e41, e42, e43, e44, e45, e46, e47, e48, e49, e50, e51, e52, e53, e54, e55, e56, e57, e58, e59] : List (List Addr → PySem.W.Frag → Bool)) ++ ([e60, e61, e62, e63, e64, e65, e66, e67, e68, e69, e70, e71, e72, e73, e74, e75, e76, e77, e78, e79] : List (List Addr → PySem.W.Frag → Bool)) ++ ([e80, e81, e82, e83, e84, e85, e86, e87, e88, e89, e90, e91, e92, e93, e94, e95, e96, e97, e98, e99] : List (List Addr → PySem.W.Frag → Bool)) ++ ([e100, e101, e102, e103, e104, e105, e106] : List (List Addr → PySem.W.Frag → Bool))
def tp : Top where
  cls := [26, 12, 10, 11, 13]
  met := [(26, "__init__"), (26, "__eq__"), (26, "__str__"), (26, "__repr__"), (12, "__init__")]
  obj := []
  fns := ([d0, d1, d2, d3, d4, d5, d6, d7, d8, d9, d10, d11, d12, d13, d14, d15, d16, d17, d18, d19] : List Df) ++ ([d20, d21, d22, d23, d24, d25] : List Df)
  ts := []
  ex := fun L K => exs.all fun p => p L K
abbrev hk : PySem.W.Hook := tp.hook
def ob (s : PySem.W.SharedT) : AlM := tp.obs (HandSHeadRun.getT s)
theorem ob_eq (s : PySem.W.SharedT) : ob s = hk.obs s.abs := tp.obs_eq (HandSHeadRun.getT_eq s)
abbrev R : PySem.W.OpenRow := PySem.W.OpenLaw.row PySem.Challenge.rw_cellranks_k07_arrays_read_and_refused
abbrev qv : Program := PySem.W.view R.prog [37]
def names : List Str := (["_wall", "__name__", "NoShape", "Miscount", "NoText", "NoTree", "NoCell", "FIGURES", "MOST_FIGURES", "is_whole", "is_from", "whole_in"] : List Str) ++ (["MOST_AXES", "MOST_SIZE", "is_shape", "count", "is_index", "offset", "Array", "shape_in", "read_array", "_law_feed", "_law_draw", "_law_of"] : List Str) ++ (["_law_count", "_law_number", "_law_base", "_law_array_text", "_law_is_board", "_law_great", "_law_figures", "_law_read", "_law_spoilt", "_law_told"] : List Str)
theorem run_f (w : World) : HandSHeadRun.RunEq R qv hk ob 40000 names (w.withFollow "special-get-raises" false) := by
  intro os
  kernel_rfl
theorem run_t (w : World) : HandSHeadRun.RunEq R qv hk ob 40000 names (w.withFollow "special-get-raises" true) := by
  intro os
  kernel_rfl
theorem run (w : World) : HandSHeadRun.RunEq R qv hk ob 40000 names w := PySem.W.byRow2 "special-get-raises" (P := fun w => HandSHeadRun.RunEq R qv hk ob 40000 names w) run_f run_t w
abbrev dd : DefRec := HandSHeadRun.topDef R.prog 37
theorem z1 : PySem.W.opening R.prog = PySem.W.plainProg R.prog.main.scope.names := by kernel_rfl
theorem z2 (s) : fenceModules? R.prog s = some s := by kernel_rfl
theorem z3 : PySem.W.defOf qv R.name = some (dd, []) := by kernel_rfl
theorem z4 : R.prog.theDef R.name = some (dd.params, dd.body, dd.scope) := by kernel_rfl
theorem z5 : PySem.W.kwWritten? dd.params.kwonlyargs dd.params.kw_defaults = some [] := by kernel_rfl
theorem z6 : (!R.writes || R.records.isEmpty) = true := by rfl
theorem z7 : R.wellSaid = true := by decide +kernel
theorem z8 : (PySem.W.chainsOk qv && PySem.W.opensWell R.prog && (PySem.W.frees R.toRowW && R.within.isEmpty)) = true := by decide +kernel
theorem z9 : R.prog.bare := ⟨rfl, rfl, rfl, rfl, rfl, by decide +kernel⟩
theorem z10 : importsNone qv = true := by decide +kernel
theorem z11 : dd.params.defaults = [] := by kernel_rfl
theorem z12 : dd.name = ("law" : PySem.Str) := by kernel_rfl
end Hd
/-! Cr0: what every law here uses: defs by place, the ghost part of the heap. -/
namespace Cr
open PySem L2

structure FnAt (K : PySem.W.Frag) (mg : Str → Option Value) (x qual : Str) (st : Stmt) (ps : List Str) where
  f : Addr
  fd : FuncData
  F : Fun K x qual st f fd
  b : Binds K fd ps []
  mg : mg x = some (.ref f)
structure MtAt (K : PySem.W.Frag) (C : Addr) (x qual : Str) (st : Stmt) (ps : List Str) where
  f : Addr
  fd : FuncData
  F : Fun K x qual st f fd
  b : Binds K fd ps []
  m : Meth K C x f
structure ClAt (K : PySem.W.Frag) (mg : Str → Option Value) (x : Str) (C fI : Addr) : Prop where
  mkk : Mk K C fI
  cl : Cls K C
  mg : mg x = some (.ref C)

/-! ### the ghost part: G stands in H -/
theorem Same.new {G H : Hp} {p : Addr} {o : HO} (s : Same G H) (h : H p = none) : Same G (upd H p o) := fun a u e => by
  rw [upd_ne (ne_of_none (s a u e) h)]
  exact s a u e
theorem Same.put {G H : Hp} {p : Addr} {o : HO} (s : Same G H) (h : G p = none) : Same G (upd H p o) := fun a u e => by
  rw [upd_ne (ne_of_none e h)]
  exact s a u e
theorem Same.add {G H : Hp} {p : Addr} {o : HO} (s : Same G H) (h : H p = some o) : Same (upd G p o) H := fun a u e => by
  by_cases q : a = p
  · subst q
    rw [upd_same] at e
    cases e
    exact h
  · rw [upd_ne q] at e
    exact s a u e
theorem Same.two {G H : Hp} {p : Addr} {o : HO} (s : Same G H) : Same (upd G p o) (upd H p o) := fun a u e => by
  by_cases q : a = p
  · subst q
    rw [upd_same] at e ⊢
    exact e
  · rw [upd_ne q] at e ⊢
    exact s a u e
theorem same_up {G : Hp} {p : Addr} {o : HO} (h : G p = none) : Same G (upd G p o) := fun a u e => by
  rw [upd_ne (ne_of_none e h)]
  exact e
theorem Same.lst {G H : Hp} {a : Addr} {u : HO} (s : Same G H) (h : Rd G a u) : Rd H a u := by
  rcases h with h | ⟨o, h⟩
  · exact .inl (s _ _ h)
  · exact .inr ⟨o, s _ _ h⟩
theorem Same.sqL {K : PySem.W.Frag} {G H : Hp} {a : Addr} {xs : List V} (s : Same G H) (h : SqL K G a xs) : SqL K H a xs := s.seq h
theorem Same.sqT {K : PySem.W.Frag} {G H : Hp} {a : Addr} {xs : List V} (s : Same G H) (h : SqT K G a xs) : SqT K H a xs := by
  rcases h with h | h
  · exact .inl (Same.lst s h)
  · exact .inr h
theorem canInts : ∀ ns : List Int, PyData.canLayAll0 (ns.map PyData.int) = true
  | [] => rfl
  | n :: r => by simp [PyData.canLayAll0, PyData.canLay0, canInts r]
theorem depInts : ∀ ns : List Int, PyData.depthAll (ns.map PyData.int) ≤ 1
  | [] => by simp [PyData.depthAll]
  | n :: r => by have := depInts r; simp [PyData.depthAll, PyData.depth]; omega
theorem ofL {K : PySem.W.Frag} {H : Hp} {a : Addr} {xs : List V} (h : H a = some (.lst xs)) : SqL K H a xs := .inl (.inl h)
theorem ofT {K : PySem.W.Frag} {H : Hp} {a : Addr} {xs : List V} (h : H a = some (.tup xs)) : SqT K H a xs := .inl (.inl h)
end Cr

/-! Cr1: rules that the layer lacks. -/
namespace Cr
open PySem PySem.Spec PyProof.Rows L2

/-! ### s[::-1] -/
def revS (z : Str) : Str := ⟨z.cps.toList.reverse.toArray⟩
theorem revS_length (z : Str) : (revS z).length = z.length := by simp [revS, Str.length]
def tRevS (te : TE) : TE := fun σ H Q => te σ H fun x H1 => ∃ z : Str, x = .str z ∧ z.length ≤ sizeLine ∧ Q (.str (revS z)) H1
theorem rev_picked (z : Str) : ((Builtin.Str.strSliceIndices none none (-1) z.length).filterMap (z.cps[·]?)).toArray = z.cps.toList.reverse.toArray := by
  rw [picked_rev]
  have e : z.length = z.cps.size := rfl
  rw [e, PySem.W.krv_range, List.filterMap_reverse, PySem.W.krv_all]
theorem pe_revS {X : Cx} {e : Expr} {te : TE} {k : Nat} {p1 p2 p3 pos : Pos} (he : PE X e te) : PE X (.Subscript e (.Slice none none (some (.UnaryOp .USub (.Constant (.int 1) k p1) p2)) p3) pos) (tRevS te) := by
  refine ⟨fun pins s σ H Q I h => ?_⟩
  refine Subscript_ (thn (he.run pins s σ H _ I h) fun v s1 ⟨x, H1, I1, r1, q1⟩ => ?_)
  obtain ⟨z, ex, hz, q⟩ := q1
  subst ex
  obtain ⟨t, rfl⟩ := r1
  have hst : PO X (some (.UnaryOp .USub (.Constant (.int 1) k p1) p2)) (tPart (tUn (rU fun i => .int (-i)) (tC (.int 1)))) := po_some (pe_un un_neg pe_int)
  refine wpAny_Slice (thn (po_none.run pins s1 σ H1 (fun o H2 => o = none ∧ H2 = H1) I1 ⟨rfl, rfl⟩) fun vl s2 ⟨l, H2, I2, pl, el, e2⟩ => ?_)
  subst el e2
  refine thn (po_none.run pins s2 σ H2 (fun o H3 => o = none ∧ H3 = H2) I2 ⟨rfl, rfl⟩) fun vu s3 ⟨u, H3, I3, pu, eu, e3⟩ => ?_
  subst eu e3
  refine thn (hst.run pins s3 σ H3 (fun o H4 => o = some (-1) ∧ H4 = H3) I3 ⟨1, rfl, -1, rfl, rfl, rfl⟩) fun vs s4 ⟨o, H4, I4, ps, eo, e4⟩ => ?_
  subst eo e4
  have I5 : Inv X pins σ H4 { s4 with heap := s4.heap.push { cls := .type "slice", data := .fields #[vl, vu, vs] } } := I4.kept (t' := s4.toks) fun b ob q => Heap.get?_push_of_some _ q
  obtain ⟨l, rfl, hl⟩ := IsPart.raw pl
  obtain ⟨u, rfl, hu⟩ := IsPart.raw pu
  obtain ⟨st, rfl, hst'⟩ := IsPart.raw ps
  have hl0 : l.map (·.1) = none := hl
  have hu0 : u.map (·.1) = none := hu
  have hs0 : st.map (·.1) = some (-1) := hst'
  show wpAny (model X.prog X.w) X.A (subscriptTail e (.Slice none none (some (.UnaryOp .USub (.Constant (.int 1) k p1) p2)) p3) (.str z t) (.ref s4.heap.objs.size)) (EP X pins σ Q) X.xe { s4 with heap := s4.heap.push { cls := .type "slice", data := .fields #[partValue l, partValue u, partValue st] } }
  refine tail_any (ops := [.str z t, .ref s4.heap.objs.size]) (typeIs_str _ _ _) F.slot_str_getitem.lookup ?_ (by with_unfolding_all rfl)
  refine wpAny_getItem_str_slice (l := l) (u := u) (st := st) ⟨_, Heap.get?_push_size _ rfl, rfl, rfl⟩ (by rw [hs0]; rfl) ?_
  have key : Made.post (if (((st.map (·.1)).getD 1 == 1) && (Builtin.Str.strSliceIndices (l.map (·.1)) (u.map (·.1)) ((st.map (·.1)).getD 1) z.length).length == z.length) = true then Made.val (.str z t)
    else Made.str ⟨((Builtin.Str.strSliceIndices (l.map (·.1)) (u.map (·.1)) ((st.map (·.1)).getD 1) z.length).filterMap (z.cps[·]?)).toArray⟩) (EP X pins σ Q) { s4 with heap := s4.heap.push { cls := .type "slice", data := .fields #[partValue l, partValue u, partValue st] } } := by
    rw [hl0, hu0, hs0]
    rw [if_neg (by rw [show (((some (-1) : Option Int)).getD 1 == 1) = false from rfl, Bool.false_and]; exact Bool.false_ne_true)]
    show Made.post (Made.str ⟨((Builtin.Str.strSliceIndices none none (-1) z.length).filterMap (z.cps[·]?)).toArray⟩) _ _
    rw [rev_picked]
    exact ⟨by have := revS_length z; unfold revS at this; rw [this]; exact hz, .str _, H4, I5.tok _, ⟨_, rfl⟩, q⟩
  exact key

/-! ### defs that are only run where no repr runs around -/
structure FnG (P : Program) (w : World) (K : PySem.W.Frag) (mg : Str → Option Value) (base : Heap) (CX : CXT) (k : Nat) (f : Addr) (fd : FuncData) (ps : List Str) (sp : Sp) : Prop where
  len : ∀ vs H Q E, sp vs H Q E → vs.length = ps.length
  run : ∀ (A : Around) (outer : List Env) (s : Shared) (H : Hp) (args : Args) (us : List Value) (vs : List V) (Q : VK) (E : XK), Room k A → A.guards = some [] → Env0 P w K mg base A outer s H → BindsTo s fd args (ps.zip us) → Vals vs us → sp vs H Q E →
    codeAny (model P w) A (.call (.ref f) args) (CR CX outer P w H s Q E) s
/-- what a body's end says of the call -/
theorem CE.of {X : Cx} {σ' : L2.St} {H' : Hp} {v : V} {u : Value} {s' : Shared} {Q : VK} (J : Inv X [] σ' H' s') (h0 : X.fs = frs X.outer) (hx : X.ex = []) (rv : RelV v u) (q : Q v H') : CE X.outer X.prog X.w X.H_0 X.s_0 Q u s' := by
  have b := J.base
  rw [hx] at b
  exact ⟨v, H', J.os, J.bare, b, J.hok, rv, q⟩
theorem okG {P : Program} {w : World} {K : PySem.W.Frag} {mg : Str → Option Value} {base : Heap} {x qual : Str} {st : Stmt} {f : Addr} {fd : FuncData} {N ps : List Str} {k : Nat} {sp : Sp}
    (F : Fun K x qual st f fd) (S : FnScope N ps (defScope st)) (hlen : ∀ vs H Q E, sp vs H Q E → vs.length = ps.length)
    (body : ∀ cdv A outer s H vs Q E, Room k (A.deeper (envOfC qual (defScope st) s.heap.objs.size f cdv)) → A.guards = some [] → sp vs H Q E →
      ∃ t, PSs (cxOf CX0 P w K mg base N qual (defScope st) f cdv A outer s H E).nox (defBody st) t ∧ t ⟨fun _ H' => Q .non H', Q, fun _ _ => False, fun _ _ => False⟩ (start N vs) H) :
    FnG P w K mg base CX0 (k + 1) f fd ps sp := by
  obtain ⟨oc, od, kV, doc, pm, an, cd, ct, osl, rfl, look, hc⟩ := F.ex
  refine ⟨hlen, fun A outer s H args us vs Q E room grd env bind rel want => ?_⟩
  have keep : ∀ b o, base.get? b = some o → s.heap.get? b = some o := fun b o e => (env.bs b o e).1
  have KX := env.mod.kin.keeps keep
  have par : ∀ y ∈ ps.zip us, (defScope st).names.lookup y.1 = some .local ∨
      ((defScope st).names.lookup y.1 = some .cell ∧ ((cellsFrom (s.heap.objs.size + 1) (defScope st).names []).lookup y.1).isSome = true) := by
    rintro ⟨n, v⟩ hy
    exact (S.par n (List.of_mem_zip hy).1).imp id fun q => ⟨q, PySem.W.cellsFrom_some _ _ _ (.inl q)⟩
  refine codeAny_call_function room.depth (KX _ _ look) rfl S.co S.gen rfl (PySem.W.codeRec_of KX hc) (bind _ _ _ _ ?_)
  refine wpAny_newFunctionEnv_cells S.kind par fun e he s1 x1 => ?_
  subst he
  obtain ⟨t, d, q⟩ := body cd A outer s H vs Q E (room.deeper _) grd want
  refine ⟨(env.mod.nolimit.keeps keep).keeps x1.toInCall.keep, codeAny_func (wpAny_mono (d.nox.run [] s1 _ H _ (inv_start S room.hd env (hlen _ _ _ _ want) rel x1) q) (fun fl s' hs => ?_) fun _ _ z => z)⟩
  cases fl with
  | ret u => let ⟨_, _, _, J, rv, z⟩ := hs; exact CE.of J rfl rfl rv z
  | next => let ⟨_, _, J, z⟩ := hs; exact CE.of (v := V.non) J rfl rfl rfl z
  | brk => exact hs.elim fun _ z => z.elim fun _ z => z.2.elim
  | cont => exact hs.elim fun _ z => z.elim fun _ z => z.2.elim
theorem FnG.of {P : Program} {w : World} {K : PySem.W.Frag} {mg : Str → Option Value} {base : Heap} {CX : CXT} {k : Nat} {f : Addr} {fd : FuncData} {ps : List Str} {sp : Sp} (F : FnOk P w K mg base CX k f fd ps sp) : FnG P w K mg base CX k f fd ps sp :=
  ⟨F.len, fun A outer s H args us vs Q E hr _ => F.run A outer s H args us vs Q E hr⟩

/-! ### the law's end by FnG: the script is tracked, locked, unless it is one of the written things -/
section
variable {P : Program} {w : World} {K : PySem.W.Frag} {a : Addr} {vs : List Value} {ns : List Int} {h : Heap}
def scrO (vs : List Value) : Obj := { cls := .type "list", data := .seq vs.toArray }
def scr (K : PySem.W.Frag) (a : Addr) (vs : List Value) (ns : List Int) : Hp := fun b => if b = a ∧ K.lookup a = none then some (.frz (scrO vs) (.lst (ns.map V.int))) else none
theorem scr_some {b : Addr} {u : HO} (e : scr K a vs ns b = some u) : b = a ∧ K.lookup a = none ∧ u = .frz (scrO vs) (.lst (ns.map V.int)) := by
  unfold scr at e
  split at e
  · next c => cases e; exact ⟨c.1, c.2, rfl⟩
  · cases e
theorem scr_only : Only (scr K a vs ns) := fun b => by
  cases e : scr K a vs ns b with
  | none => exact .inl rfl
  | some u => obtain ⟨_, _, rfl⟩ := scr_some e; exact .inr ⟨_, _, rfl⟩
theorem scr_ok (ha : h.get? a = some (scrO vs)) (hi : IntsAre vs ns) (hl : ns.length ≤ sizeLine) : HOk P w (scr K a vs ns) h := fun b u e => by
  obtain ⟨rfl, _, rfl⟩ := scr_some e
  exact ⟨ha, by rw [List.length_map]; exact hl, vs, _, vals_ints hi, ha⟩
theorem scr_sq (KX : K.In h) (ha : h.get? a = some (scrO vs)) (hi : IntsAre vs ns) (hl : ns.length ≤ sizeLine) : SqL K (scr K a vs ns) a (ns.map V.int) := by
  cases e : K.lookup a with
  | none => exact .inl (.inr ⟨scrO vs, if_pos ⟨rfl, e⟩⟩)
  | some o =>
    obtain rfl : scrO vs = o := Option.some.inj (ha.symm.trans (KX a o e))
    exact .inr ⟨_, vs.toArray, _, e, rfl, rfl, rfl, by rw [List.size_toArray, hi.length]; exact hl, by simpa using vals_ints hi⟩
theorem scr_dict {b : Addr} {o : Obj} {es : Array DictEntry} {ep : Nat} (ha : h.get? a = some (scrO vs)) (e : h.get? b = some o) (d : o.data = .dict es ep) : scr K a vs ns b = none := by
  cases q : scr K a vs ns b with
  | none => rfl
  | some u =>
    obtain ⟨rfl, _⟩ := scr_some q
    obtain rfl := Option.some.inj (ha.symm.trans e)
    cases d
theorem scr_free (b : Addr) (o : Obj) (e : K.lookup b = some o) : scr K a vs ns b = none := by
  cases q : scr K a vs ns b with
  | none => rfl
  | some u =>
    obtain ⟨rfl, n, _⟩ := scr_some q
    rw [n] at e
    cases e
end

end Cr

/-! CrE: the end, with the dict of modules among what stays. -/
namespace Cr
open PySem PySem.Spec PyProof.Rows L2
end Cr

/-! Cr2: == and != where an own __eq__ answers, str() by an own __str__. -/
namespace Cr
open PySem PySem.Spec PyProof.Rows L2

/-- what the text says of a class with an own ==: f the def; ne the inherited != -/
structure OwnE (K : PySem.W.Frag) (C f : Addr) : Prop where
  eq : PySem.W.findIn K (.ref C) "__eq__" = some (some (.ref f))
  fn : PySem.W.isFn K (.ref f) = true
  ne : PySem.W.findIn K (.ref C) "__ne__" = some (some (.builtin "object.__ne__"))
  ob : PySem.W.mroIn K C (.type "object") = some true
  noL : PySem.W.mroIn K C (.type "list") = some false
  noT : PySem.W.mroIn K C (.type "tuple") = some false
  noD : PySem.W.mroIn K C (.type "dict") = some false
  noS : PySem.W.mroIn K C (.type "str") = some false
  noI : PySem.W.mroIn K C (.type "int") = some false
  noB : PySem.W.mroIn K C (.type "bool") = some false
  noN : PySem.W.mroIn K C (.type "NoneType") = some false

section
variable {prog : Program} {w : World} {A : Around} {E : Value → Shared → Prop} {s : Shared} {K : PySem.W.Frag} {x C f : Addr} {ox : Obj} {od : Option Obj}
end

/-! ### in, index: the list read anew at each turn -/
section
variable {prog : Program} {w : World} {A : Around} {R : Result → Shared → Prop} {E : Value → Shared → Prop}
end

/-! ### over the layer -/
section
variable {X : Cx} {CX : CXT} {k : Nat} {f C : Addr} {fd : FuncData} {ps : List Str} {sp : Sp}
theorem run_at {A : Around} {E : XK} {pins : List (Addr × Obj)} {σ : L2.St} {H : Hp} {s : Shared} {Q : VK} {us : List Value} {vs : List V} (F : FnOk X.prog X.w X.K X.mg X.base CX k f fd ps sp) (room : Room k A) (fr : A.frames = X.A.frames)
    (hb : Binds X.K fd ps []) (hx : Passes CX X E) (I : Inv X pins σ H s) (r : Vals vs us) (h : sp vs H Q E) : wpAny (model X.prog X.w) A (call (.ref f) us) (EP X pins σ Q) X.xe s := by
  have hl : us.length = ps.length := r.length.symm.trans (F.len _ _ _ _ h)
  have e := I.env0
  have b := hb s us I.kIn (by rw [List.append_nil]; exact hl)
  rw [List.append_nil] at b
  refine wpAny_call (codeAny_mono (F.run A X.stack s H ⟨us, []⟩ us vs Q E room ⟨fr.trans e.frames, e.mod, e.bs, e.bsz, e.funs, e.frf, e.hok, e.bare⟩ b r h) fun r s' q => ?_)
  match r, q with
  | .error e, q => exact hx pins σ H s e s' I q
  | .ok (.ret u), q => exact I.after q
/-- an own == answers b, and K of it -/
def OwnB (K : Bool → Hp → Prop) : VK := fun v H' => ∃ r, v = .bl r ∧ K r H'
theorem inst_at {pins : List (Addr × Obj)} {σ : L2.St} {H : Hp} {s : Shared} {a dx : Addr} {fs : List (Str × V)} (I : Inv X pins σ H s) (h : H a = some (.ins C dx fs)) :
    ∃ od, PySem.W.InstAt s.heap a (PySem.W.instObj C dx) C od := by
  obtain ⟨mA, J, _⟩ := ins_get I.hok h
  obtain ⟨od, J, _⟩ := J.look
  exact ⟨od, J⟩
theorem eq_run {A : Around} {pins : List (Addr × Obj)} {σ : L2.St} {H : Hp} {s : Shared} {a dx : Addr} {fs : List (Str × V)} {y : V} {u t : Value} {K : Bool → Hp → Prop} (O : OwnE X.K C f) (F : FnOk X.prog X.w X.K X.mg X.base CX0 k f fd ps sp)
    (hb : Binds X.K fd ps []) (room : Room k A) (fr : A.frames = X.A.frames) (I : Inv X pins σ H s) (ha : H a = some (.ins C dx fs)) (ry : RelV y u) (ty : TyX X.K H y t) (hn : PySem.W.notFirst X.K C t = true) (h : sp [.ref a, y] H (OwnB K) E0) :
    wpAny (model X.prog X.w) A (richCompare .Eq (.ref a) u) (fun v s' => ∃ b H', v = .bool b ∧ Inv X pins σ H' s' ∧ K b H') X.xe s := by
  obtain ⟨od, J⟩ := inst_at I ha
  obtain ⟨P, Z, p, _⟩ := kit_of I ry ty
  obtain ⟨m, hF⟩ := I.fr
  refine PySem.W.cmp_K (op := .Eq) room.units0 hF I.ok.mod.kin J (Z.ty _ _ I.kIn p) hn O.eq O.fn ?_
  refine wpAny_mono (run_at F room fr hb pass0 I (vs := [.ref a, y]) (us := [.ref a, u]) (.cons rfl (.cons ry .nil)) h) (fun v s' z => ?_) fun _ _ z => z
  obtain ⟨w, H', I', rw', b, rfl, q⟩ := z
  obtain rfl : v = .bool b := rw'
  exact ⟨b, H', rfl, I', q⟩
/-- x == y, x an instance of the class with an own == -/
theorem op_eqO (O : OwnE X.K C f) (F : FnOk X.prog X.w X.K X.mg X.base CX0 k f fd ps sp) (hb : Binds X.K fd ps []) (room : Room k X.A) :
    OpR X (compareOp .Eq) (fun x y H Q => ∃ a dx fs t, x = .ref a ∧ H a = some (.ins C dx fs) ∧ TyX X.K H y t ∧ PySem.W.notFirst X.K C t = true ∧ sp [.ref a, y] H (OwnB fun r H' => Q (.bl r) H') E0) := by
  intro pins s σ H x y v u Q I rx ry h
  obtain ⟨a, dx, fs, t, rfl, ha, ty, hn, h⟩ := h
  cases rx
  show wpAny _ _ (richCompare .Eq (.ref a) u) _ _ _
  refine wpAny_mono (eq_run O F hb room rfl I ha ry ty hn h) (fun v s' z => ?_) fun _ _ z => z
  obtain ⟨b, H', rfl, I', q⟩ := z
  exact ⟨.bl b, H', I', rfl, q⟩
/-- what stands left of == : its own == declines -/
inductive Bk (K : PySem.W.Frag) (H : Hp) : V → Prop where
  | non : Bk K H .non
  | int (i : Int) : Bk K H (.int i)
  | str (z : Str) : Bk K H (.str z)
  | lst {a : Addr} {xs : List V} (h : SqL K H a xs) : Bk K H (.ref a)
  | tup {a : Addr} {xs : List V} (h : SqT K H a xs) : Bk K H (.ref a)
  | dK {a : Addr} {kvs : List (Key × V)} (h : H a = some (.dK kvs)) : Bk K H (.ref a)
end
end Cr

/-! Cr3: in and index by an own ==, str() by an own __str__, == of dicts. -/
namespace Cr
open PySem PySem.Spec PyProof.Rows L2

section
variable {X : Cx} {CX : CXT} {k : Nat} {f C : Addr} {fd : FuncData} {ps : List Str} {sp : Sp}
/-- the class's facts for a type told by an instance -/
structure OwnT (K : PySem.W.Frag) (C : Addr) : Prop where
  cl : Cls K C
  ty : ∀ {H : Hp} {b dy : Addr} {gs : List (Str × V)}, H b = some (.ins C dy gs) → TyX K H (.ref b) (.ref C)
/-- str(o) by an own __str__ -/
theorem call_strO (hs : PySem.W.findIn X.K (.ref C) "__str__" = some (some (.ref f))) (hf : PySem.W.isFn X.K (.ref f) = true) (F : FnOk X.prog X.w X.K X.mg X.base CX0 k f fd ps sp) (hb : Binds X.K fd ps []) (room : Room (k + 2) X.A) :
    CallR X (.type "str") (fun xs H Q => ∃ a dx fs, xs = [.ref a] ∧ H a = some (.ins C dx fs) ∧ sp [.ref a] H (fun v H' => ∃ z, v = .str z ∧ Q (.str z) H') E0) := by
  intro pins s σ H xs us Q I r h
  obtain ⟨a, dx, fs, rfl, ha, h⟩ := h
  obtain ⟨u, rfl, ru⟩ := vals1 r
  cases ru
  obtain ⟨od, J⟩ := inst_at I ha
  refine PySem.W.kso_call (by have := room.un; show X.A.units + 1 + 1 < cLine; omega) I.kIn J hs hf ?_
  refine wpAny_mono (run_at F (room.in1.in1.mono (by omega)) rfl hb pass0 I (vs := [.ref a]) (us := [.ref a]) (.cons rfl .nil) h) (fun v s' z => ?_) fun _ _ z => z
  obtain ⟨w, H', I', rw', b, rfl, q⟩ := z
  obtain ⟨t, rfl⟩ : ∃ t, v = .str b t := rw'
  exact ⟨.str b, H', I', ⟨t, rfl⟩, q⟩
end

end Cr

/-! CrR: repr of anything: data without dicts, and dicts of plain things. -/
namespace Cr
open PySem PySem.Spec PyProof.Rows L2
mutual
theorem dpNoDict {K : PySem.W.Frag} {H : Hp} : ∀ {v : V} {d : PyData}, Dp K H v d → d.hasDict = false
  | _, _, .non => by simp only [PyData.hasDict]
  | _, _, .bl b => by simp only [PyData.hasDict]
  | _, _, .int i => by simp only [PyData.hasDict]
  | _, _, .str x => by simp only [PyData.hasDict]
  | _, _, .lst h a => by simp only [PyData.hasDict]; exact dpNoDicts a
  | _, _, .tup h a => by simp only [PyData.hasDict]; exact dpNoDicts a
theorem dpNoDicts {K : PySem.W.Frag} {H : Hp} : ∀ {vs : List V} {ds : List PyData}, DpAll K H vs ds → PyData.hasDictAll ds = false
  | _, _, .nil => by simp only [PyData.hasDictAll]
  | _, _, .cons h t => by simp only [PyData.hasDictAll, dpNoDict h, dpNoDicts t, Bool.or_self]
end
def keyD : Key → PyData
  | .inl i => .int i
  | .inr z => .str z
/-- plain values as data -/
inductive Fl : V → PyData → Prop where
  | non : Fl .non .none
  | bl (b : Bool) : Fl (.bl b) (.bool b)
  | int (i : Int) : Fl (.int i) (.int i)
  | str (z : Str) : Fl (.str z) (.str z)
theorem Fl.reads {h : Heap} {v : V} {d : PyData} {u : Value} (f : Fl v d) (r : RelV v u) : Reads h u d [] := by
  cases f with
  | non => cases r; exact .none
  | bl b => cases r; exact .bool b
  | int i => obtain ⟨t, rfl⟩ := r; exact .int i t
  | str z => obtain ⟨t, rfl⟩ := r; exact .str z t
abbrev KvD : List (Key × V) → List (PyData × PyData) → Prop := Paired fun p d => keyD p.1 = d.1 ∧ Fl p.2 d.2
theorem key_reads {h : Heap} {k : Key} {v : Value} (e : keyIs k v = true) : Reads h v (keyD k) [] := by
  rcases keyIs_shape e with ⟨i, t, rfl, rfl⟩ | ⟨x, t, rfl, rfl⟩
  · exact .int i t
  · exact .str x t
theorem kv_reads {P : Program} {w : World} {h : Heap} {es : List DictEntry} {vs : List (Key × Value)} (hp : Pairs (mixKind P w) es vs) : ∀ {kvs : List (Key × V)} {ds : List (PyData × PyData)}, KV kvs vs → KvD kvs ds →
    ReadsAll h (es.map (·.key)) (ds.map (·.1)) [] ∧ ReadsAll h (es.map (·.val)) (ds.map (·.2)) [] := by
  induction hp with
  | nil =>
    intro kvs ds r f
    unfold KV at r
    cases r
    cases f
    exact ⟨.nil, .nil⟩
  | @cons en kv es vs hk hv ht ih =>
    intro kvs ds r f
    unfold KV at r
    cases r with
    | cons r rt =>
      cases f with
      | cons f ft =>
        obtain ⟨i1, i2⟩ := ih rt ft
        obtain ⟨e1, e2⟩ := r
        obtain ⟨f1, f2⟩ := f
        have k1 : Reads h en.key (keyD kv.1) [] := key_reads hk
        refine ⟨?_, ?_⟩
        · rw [← e1, f1] at k1
          exact ReadsAll.cons (as := []) (bs := []) k1 i1
        · rw [← hv] at e2
          exact ReadsAll.cons (as := []) (bs := []) (f2.reads e2) i2
/-- anything that repr is asked of -/
inductive Th (K : PySem.W.Frag) (H : Hp) : V → PyData → Prop where
  | dp {v : V} {d : PyData} (h : Dp K H v d) : Th K H v d
  | dk {a : Addr} {kvs : List (Key × V)} {ds : List (PyData × PyData)} (h : H a = some (.dK kvs)) (f : KvD kvs ds) : Th K H (.ref a) (.dict ds)
theorem call_reprA {X : Cx} (hg : X.A.guards = some []) (hu : X.A.units + 66 < cLine) : CallR X (.builtin "repr") (fun xs H Q => ∃ (v : V) (d : PyData), xs = [v] ∧ Th X.K H v d ∧ d.showable = true ∧ d.depth ≤ 64 ∧ d.shown.length ≤ sizeLine ∧ Q (.str d.shown) H) := by
  intro pins s σ H xs us Q I r h
  obtain ⟨v, d, ex, hd, hs, hdep, hsz, q⟩ := h
  subst ex
  obtain ⟨u, eu, rx⟩ := vals1 r
  subst eu
  cases hd with
  | dk ha f =>
    rename_i a kvs ds
    cases rx
    obtain ⟨_, sm, vs, rv, o, es, ep, ho, ⟨hc, _, _⟩, hdat, _, hp, _⟩ := dk_of I.hok ha
    obtain ⟨r1, r2⟩ := kv_reads (h := s.heap) hp rv f
    have rr : Reads s.heap (.ref a) (.dict ds) (a :: [] ++ []) := .dict ho hc hdat r1 r2
    exact repr_of_reads' rr hs (fun _ hm => by
      have e : sysModules = a := by simpa using hm
      rw [← e] at sm
      exact absurd sm (by decide)) hg (by omega) (fun b o e => e) (fun h' u tk hk => ⟨.str _, H, I.kept (t' := tk) hk, ⟨u, rfl⟩, q⟩) hsz
  | dp hd =>
    cases hd with
    | non => cases rx; exact PySem.P.repr_of_none ⟨.str _, H, I.tok _, ⟨_, rfl⟩, by simpa only [PyData.shown] using q⟩
    | bl b => cases rx; exact PySem.P.repr_of_bool ⟨.str _, H, I.tok _, ⟨_, rfl⟩, by simpa only [PyData.shown] using q⟩
    | int i =>
      obtain ⟨t, rfl⟩ := rx
      exact PySem.P.repr_of_int (by simpa [PyData.showable] using hs) ⟨.str _, H, I.tok _, ⟨_, rfl⟩, by simpa only [PyData.shown] using q⟩
    | str z =>
      obtain ⟨t, rfl⟩ := rx
      simp only [PyData.shown] at hsz
      exact PySem.P.repr_of_str ⟨.str _, H, I.tok _, ⟨_, rfl⟩, by simpa only [PyData.shown] using q⟩ hsz
    | lst h1 h2 =>
      cases rx
      obtain ⟨as, r1⟩ := Dp.reads I _ _ _ (.lst h1 h2) rfl
      exact repr_of_reads' r1 hs (PyData.noDict_hsm (dpNoDict (.lst h1 h2))) hg (by omega) (fun b o e => e) (fun h' u tk hk => ⟨.str _, H, I.kept (t' := tk) hk, ⟨u, rfl⟩, q⟩) hsz
    | tup h1 h2 =>
      cases rx
      obtain ⟨as, r1⟩ := Dp.reads I _ _ _ (.tup h1 h2) rfl
      exact repr_of_reads' r1 hs (PyData.noDict_hsm (dpNoDict (.tup h1 h2))) hg (by omega) (fun b o e => e) (fun h' u tk hk => ⟨.str _, H, I.kept (t' := tk) hk, ⟨u, rfl⟩, q⟩) hsz
end Cr

/-! CrT: texts: joins, sorted signs. -/
namespace Cr
open PySem L2
theorem str_ext {x y : Str} (h : x.cps.toList = y.cps.toList) : x = y := by
  cases x; cases y
  simp at h
  simp [h]
theorem glue_fold (g : Str) : ∀ (r : List Str) (acc : Array Nat), (r.foldl (fun acc p => acc ++ g.cps ++ p.cps) acc).toList = acc.toList ++ (r.map fun p => g.cps.toList ++ p.cps.toList).flatten
  | [], acc => by simp
  | p :: r, acc => by
    rw [List.foldl_cons, glue_fold g r]
    simp
theorem join_list (g : Str) (x : Str) (r : List Str) : (Txt.join g (x :: r)).cps.toList = x.cps.toList ++ (r.map fun p => g.cps.toList ++ p.cps.toList).flatten := by
  exact glue_fold g r x.cps
end Cr

/-! Cr4: comprehensions over a locked dict's keys. -/
namespace Cr
open PySem L2
section
variable {d : Addr} {o : Obj} {kvs : List (Key × V)} {g : TG} {tt : TT} {te tk tv : TE} {vs : List Nat} {σ : L2.St} {H1 : Hp} {D : Addr} {Qd : Hp → Prop}
end
end Cr

/-! CrX1: own exception classes straight over any built-in one: made, their fields stored. -/
namespace Cr
open PySem PySem.Spec PyProof.Rows L2
/-- what the written part says of such a class -/
structure ExB (K : PySem.W.Frag) (C : Addr) (B newId initId : String) (tl : List Value) : Prop where
  fb : ExcBaseFacts B newId initId tl
  sf : StoreFacts B tl "object.__setattr__" "object"
  ii : PySem.W.excInitIn K C tl newId = true
  ov : PySem.W.excOver K C tl = true
  hd : PySem.W.hasDictIn K C = true
  sa : PySem.W.findIn K (.ref C) "__setattr__" = some (some (.builtin "object.__setattr__"))
  ga : PySem.W.findIn K (.ref C) "__getattribute__" = some (some (.builtin "BaseException.__getattribute__"))
  gt : ∃ g, PySem.W.findIn K (.ref C) "__getattr__" = some g
  exC : PySem.W.subIn K (.ref C) (.type "BaseException") = some true
  tyC : PySem.W.typeIn K (.ref C) = some (.type "type")
  kC : PySem.W.keepIn K (.ref C) = true
  ci : PySem.W.isClsIn K C = true
  ca : PySem.W.findIn K (.ref C) "__class__" = some (some (.builtin "object.__class__"))
  cn : PySem.W.specialIn K (.builtin "object.__class__") "__get__" = some (some (.builtin "getset_descriptor.__get__"))
  ct : PySem.W.takesIn K (.builtin "object.__class__") = some true
  ob : PySem.W.mroIn K C (.type "object") = some true
section
variable {X : Cx} {pins : List (Addr × Obj)} {σ : L2.St} {H : Hp} {s : Shared} {a C dx : Addr} {f : Str} {y : V} {u : Value} {fs : List (Str × V)} {Q : Unit → Shared → Prop} {E : Value → Shared → Prop} {A : Around} {B newId initId : String} {tl : List Value}
/-- the first field: the dict at dx is new, the exception at a names it now -/
theorem xinv_new {h' : Heap} {tk : Nat} {t1 : Addr} {mA : Str → Option Value} (I : Inv X pins σ H s) (e : H a = some (exo a C none)) (ha : s.heap.get? a = some (PySem.W.excObj C t1 none .none)) (k : ∀ b o, b ≠ a → s.heap.get? b = some o → h'.get? b = some o)
    (dn : s.heap.objs.size ≤ dx) (hx : h'.get? a = some (PySem.W.excObj C t1 (some dx) .none)) (hn : h'.Ns1 dx mA) (rel : ∀ g, RelO (fs.lookup g) (mA g)) :
    Inv X pins σ (upd (upd H dx (exd dx fs)) a (exo a C (some dx))) { s with heap := h', toks := tk } := by
  have nda : dx ≠ a := fun z => absurd (Heap.lt_size ha) (Nat.not_lt.mpr (z ▸ dn))
  -- between: the dict is laid, the exception is as it was
  generalize hm : h'.update a (fun _ => PySem.W.excObj C t1 none .none) = h1
  have h1a : h1.get? a = some (PySem.W.excObj C t1 none .none) := by rw [← hm]; exact Heap.get?_update_self _ hx rfl
  have h1b : ∀ b, b ≠ a → h1.get? b = h'.get? b := fun b hb => by rw [← hm]; exact Heap.get?_update_other _ _ (Ne.symm hb)
  have J := I.laid (t' := tk) (a := dx) (o := exd dx fs) (h' := h1) (fun b o q => by
    by_cases hb : b = a
    · subst hb
      rw [ha] at q
      rw [h1a]; exact q
    · rw [h1b b hb]; exact k b o hb q) dn (exd_ok (hn.at fun o q => by rw [h1b dx nda]; exact q) rel)
  have eJ : (upd H dx (exd dx fs)) a = some (exo a C none) := by rw [upd_ne (Ne.symm nda)]; exact e
  exact J.write (x := a) (e := a) (o := exo a C (some dx)) (t' := tk) (h' := h') (by rw [eJ]; exact True.intro) (.inl rfl) (fun b o hb q => by rw [← h1b b hb]; exact q) ⟨_, hx⟩ (exo_ok hx)
theorem xst_new (T : ExB X.K C B newId initId tl) (I : Inv X pins σ H s) (e : H a = some (exo a C none)) (hno : NoAttr X.K C f) (ry : RelV y u)
    (h : ∀ dx s', H dx = none → dx ≠ a → Inv X pins σ (upd (upd H dx (exd dx [(f, y)])) a (exo a C (some dx))) s' → Q () s') : wpAny (model X.prog X.w) A (setAttr (.ref a) f u) Q E s := by
  obtain ⟨t1, ho⟩ := exo_at I.hok e
  obtain ⟨hp, g, d, t, os⟩ := s
  have IA : PySem.W.InstAt hp a (PySem.W.excObj C t1 none .none) C none := ⟨ho, rfl, rfl, trivial⟩
  refine PySem.W.set_plain I.kIn IA T.sa (PySem.W.osa_openX T.sf I.kIn IA T.ov hno.taker fun b => ?_)
  obtain ⟨cd, hc, hdd⟩ := PySem.W.any_some T.hd
  refine wpAny_bind (wpAny_pure (wpAny_bind (PySem.W.instanceDict_exc (t := t1) (c2 := .none) ho (PySem.W.looks_clsIn I.kIn hc) hdd ?_)))
  have ho' : hp.get? a = some (PySem.W.excObj C t1 none .none) := ho
  have hxs : a ≠ hp.objs.size := Nat.ne_of_lt (Heap.lt_size ho')
  show wpAny _ _ (Builtin.ObjectAttr.storeInDict hp.objs.size _ f u) _ _ ⟨(hp.push (PySem.W.dictOf [] 0)).update a fun o => { o with dict := some hp.objs.size }, g, d, t + 1, os⟩
  generalize hh2 : ((hp.push (PySem.W.dictOf [] 0)).update a fun o => { o with dict := some hp.objs.size }) = h2
  have h2a : h2.get? a = some (PySem.W.excObj C t1 (some hp.objs.size) .none) := by rw [← hh2]; exact Heap.get?_update_self _ (Heap.get?_push_of_some _ ho') rfl
  have h2b : ∀ b o, b ≠ a → hp.get? b = some o → h2.get? b = some o := fun b o hb q => by rw [← hh2, Heap.get?_update_other _ _ (Ne.symm hb)]; exact Heap.get?_push_of_some _ q
  have h2d : h2.Ns hp.objs.size (fun _ => none) := by
    refine ⟨PySem.W.dictOf [] 0, #[], 0, ?_, rfl, fun en q => absurd q (by simp), fun _ => rfl⟩
    rw [← hh2, Heap.get?_update_other _ _ hxs]
    exact Heap.get?_push_at rfl rfl
  refine PySem.HandSPX.store_in_new h2d fun h' tk' hn hs => ?_
  have hfree : H hp.objs.size = none := I.hok.fresh (Nat.le_refl _)
  refine h hp.objs.size _ hfree (Ne.symm hxs) (xinv_new (s := ⟨hp, g, d, t, os⟩) (tk := tk') I e ho' (fun b o hb q => (hs.2 b (Nat.ne_of_lt (Heap.lt_size q))).trans (h2b b o hb q)) (Nat.le_refl _) ((hs.2 a hxs).trans h2a) hn (relO_put (fs := []) ry fun g => True.intro))
theorem xst_old (T : ExB X.K C B newId initId tl) (I : Inv X pins σ H s) (e : H a = some (exo a C (some dx))) (ed : H dx = some (exd dx fs)) (hl : fs.length ≤ 900) (hno : NoAttr X.K C f) (ry : RelV y u)
    (h : ∀ s', Inv X pins σ (upd H dx (exd dx ((f, y) :: fs))) s' → Q () s') : wpAny (model X.prog X.w) A (setAttr (.ref a) f u) Q E s := by
  obtain ⟨t1, ho⟩ := exo_at I.hok e
  obtain ⟨mA, hns, rel⟩ := exd_at I.hok ed
  have hw := within_of rel
  obtain ⟨hp, g, d, t, os⟩ := s
  obtain ⟨oD, _, _, hoD, _, _⟩ := hns.count hw
  have IA : PySem.W.InstAt hp a (PySem.W.excObj C t1 (some dx) .none) C (some oD) := ⟨ho, rfl, rfl, hoD⟩
  refine PySem.W.set_plain I.kIn IA T.sa (PySem.W.osa_openX T.sf I.kIn IA T.ov hno.taker fun b => ?_)
  obtain ⟨cd, hc, hdd⟩ := PySem.W.any_some T.hd
  have ho' : hp.get? a = some (PySem.W.excObj C t1 (some dx) .none) := ho
  have di : ∀ {Q' : Option Addr → Shared → Prop} {E' : Value → Shared → Prop} {s' : Shared}, s'.heap = hp → Q' (some dx) s' → wpAny (model X.prog X.w) A.in1 (instanceDict a true) Q' E' s' := by
    intro Q' E' s' es q
    unfold instanceDict
    refine wpAny_bind (wpAny_loadPart (by rw [es]; exact ho') ?_)
    refine wpAny_bind ((PySem.W.looks_clsIn I.kIn hc) _ _ _ _ (fun _ _ z => by rw [es]; exact z) ?_)
    rw [hdd]
    exact wpAny_pure q
  refine wpAny_bind (wpAny_pure (wpAny_bind (di rfl ?_)))
  show wpAny _ _ (Builtin.ObjectAttr.storeInDict dx _ f u) _ _ _
  refine PySem.OEX.store_in_old hns hw (by rw [List.length_map]; omega) fun h' tk' hn hs => ?_
  have hd : ∃ o, h'.get? dx = some o := by
    obtain ⟨o, _, _, e', _⟩ := hn
    exact ⟨o, e'⟩
  exact h _ (I.write (t' := tk') (x := dx) (e := dx) (o := exd dx ((f, y) :: fs)) (by rw [ed]; exact True.intro) (.inl rfl) (fun b o hb q => (hs.2 b hb).trans q) hd (exd_ok hn (relO_put ry rel)))
/-- B.__init__(self, ..) -/
theorem xinit_ok {us : List Value} {R : Value → Shared → Prop} (T : ExB X.K C B newId initId tl) (I : Inv X pins σ H s) (e : H a = some (exo a C none)) (hl : us.length ≤ sizeLine) (h : ∀ s', Inv X pins σ H s' → R .none s') :
    wpAny (model X.prog X.w) A (call (.builtin initId) (.ref a :: us)) R E s := by
  obtain ⟨nm, N, qn, bs, bm, hd, sn, sub, ab, col, dd, k0, k1, k2, k3, k5, hC, hT⟩ := PySem.W.excInit_of I.kIn T.ii
  obtain ⟨t1, ho⟩ := exo_at I.hok e
  obtain ⟨hp, g, d, t, os⟩ := s
  refine wpAny_call (PySem.HandSPX.init_base T.fb hT hC ho hl fun h' t2 k hx => ?_)
  have J := I.write (t' := t) (x := a) (e := a) (o := exo a C none) (by rw [e]; exact True.intro) (.inl rfl) k ⟨_, hx⟩ (exo_ok hx)
  have same : upd H a (exo a C none) = H := by
    funext b
    by_cases hb : b = a
    · subst hb; rw [upd_same, e]
    · rw [upd_ne hb]
  rw [same] at J
  exact h _ J
end
end Cr

/-! CrX2: rules for __init__ of such classes, and for making them. -/
namespace Cr
open PySem PySem.Spec PyProof.Rows L2
/-- the built-in class B by its name x -/
structure BltE (K : PySem.W.Frag) (x : Str) (B initId : String) : Prop where
  boot : bootBuiltins x = some (.type B)
  ty : typeOf (.type B) = pure (.type "type")
  st : Manifest.isStub B = false
  fi : PySem.W.findCls K (.type B) (.type "type") "__init__" = some (.val (.builtin initId))
  hi : PySem.W.handedIn (.builtin initId) = true
section
variable {X : Cx} {o e : Expr} {es : List Expr} {to te : TE} {ta : TA} {f x : Str} {p p' p1 p2 pos : Pos} {C : Addr} {B newId initId : String} {tl : List Value}
/-- B.__init__(self, ..) -/
def tBI (C : Addr) (ta : TA) : TE := fun σ H Q => ta σ H fun vs H1 => ∃ (a : Addr) (ws : List V), vs = .ref a :: ws ∧ ws.length ≤ 1000 ∧ H1 a = some (exo a C none) ∧ Q .non H1
theorem pe_bi {pl : Sem Bool} (T : ExB X.K C B newId initId tl) (hB : BltE X.K x B initId) (hg : Gl X x) (hm : X.mg x = none) (ha : PA X (e :: es) ta) (hn : x ≠ "__name__" := by decide) (hdb : (x == ("__debug__" : Str)) = false := by decide)
    (hc : eval (.Call (.Attribute (.Name x p1) "__init__" p2) (e :: es) [] pos) X.env = (do
      let z ← eval (.Name x p1) X.env
      standAt p2.atName
      let (g, fst) ← holding [z] (getMethod z "__init__" pl)
      callWith pos g fst (backTo pos (starEach (e :: es) X.env)) (backToKw pos (keywordEach [] X.env))) := by rfl)
    (he : starEach (e :: es) X.env = (false, eval e X.env) :: starEach es X.env := by rfl) (hpl : (backTo pos (starEach es X.env)).any (·.1) = false := by rfl) :
    PE X (.Call (.Attribute (.Name x p1) "__init__" p2) (e :: es) [] pos) (tBI C ta) := by
  refine ⟨fun pins s σ H Q I h => PySem.W.methodCall_KW (ld_blt I hg hm hB.boot ?_ hn hdb) hc⟩
  obtain ⟨m, fr⟩ := I.fr
  refine PySem.W.method_type fr I.ok.mod.kin hB.ty hB.st hB.fi hB.hi ?_
  show wpAny _ _ (callWith pos (Value.builtin initId) [] (backTo pos (starEach (e :: es) X.env)) []) _ _ _
  refine PyProof.Rows.callWith_method1 (thn (ha.run pos pins _ σ H _ (I.tok _) h) fun us s1 z => ?_) he hpl
  obtain ⟨vs, H1, J, rv, a, ws, rfl, hl, ea, q⟩ := z
  cases rv with
  | @cons _ v0 _ vr r0 rr =>
    obtain rfl : v0 = Value.ref a := r0
    have hlen : vr.length ≤ sizeLine := by
      have := Paired.length rr
      rw [sizeLine_eq]; omega
    exact xinit_ok T J ea hlen fun s' J' => ⟨.non, H1, J', rfl, q⟩
/-- self.f = e in such an __init__ -/
def tXst (C : Addr) (f : Str) (to te : TE) : TS := fun D σ H => te σ H fun y H1 => to σ H1 fun z H2 => ∃ a : Addr, z = .ref a ∧
  ((H2 a = some (exo a C none) ∧ ∀ dx, H2 dx = none → dx ≠ a → D.nx σ (upd (upd H2 dx (exd dx [(f, y)])) a (exo a C (some dx)))) ∨
    ∃ (dx : Addr) (fs : List (Str × V)), H2 a = some (exo a C (some dx)) ∧ H2 dx = some (exd dx fs) ∧ fs.length ≤ 900 ∧ D.nx σ (upd H2 dx (exd dx ((f, y) :: fs))))
theorem ps_xst (T : ExB X.K C B newId initId tl) (hno : NoAttr X.K C f) (ho : PE X o to) (he : PE X e te) (hs : swapsWith e (some (.Attribute o f p')) pos.line X.env = pure false := by rfl) :
    PS X (.Assign [.Attribute o f p'] e pos) (tXst C f to te) := by
  refine ⟨fun pins s σ H D I h => plainObj_wpAny_Assign_Attribute (thn (he.run pins s σ H _ I h) fun v s1 z1 => ?_) hs⟩
  obtain ⟨y, H1, I1, r1, q1⟩ := z1
  refine thn (ho.run pins s1 σ H1 _ I1 q1) fun u s2 z2 => ?_
  obtain ⟨z, H2, I2, r2, a, rfl, q⟩ := z2
  obtain rfl : u = Value.ref a := r2
  rcases q with ⟨ea, q⟩ | ⟨dx, fs, ea, ed, hl, q⟩
  · exact xst_new T I2 ea hno r1 fun dx s' n ne J => ⟨σ, _, J, q dx n ne⟩
  · exact xst_old T I2 ea ed hl hno r1 fun s' J => ⟨σ, _, J, q⟩
/-- C(e, ..) -/
theorem pmk_x {CX : CXT} {fI : Addr} {k : Nat} {fd : FuncData} {ps : List Str} {sp : Sp} (T : ExB X.K C B newId initId tl) (M : Meth X.K C "__init__" fI) (F1 : FnOk X.prog X.w X.K X.mg X.base CX k fI fd ps sp) (hr : Room (k + 1) X.A)
    (hb : Binds X.K fd ps []) (hx : Passes CX X (fun _ _ _ => False)) (hg : Gl X x) (hm : X.mg x = some (.ref C)) (ha : PA X (e :: es) ta) (hdb : (x == ("__debug__" : Str)) = false := by decide)
    (he : starEach (e :: es) X.env = (false, eval e X.env) :: starEach es X.env := by rfl) (hpl : (backTo pos (starEach es X.env)).any (·.1) = false := by rfl) :
    PMk X (.Call (.Name x p) (e :: es) [] pos) (tMkO C sp [] ta) := by
  intro pins s σ H Q I h
  refine wpAny_Call_Name_kw (ld_glob I hg hm (PySem.W.callWith_K (h₀ := X.base) I.ok.mod.kin T.kC (thn (ha.run pos pins s σ H _ I h) fun us s1 z => ?_) he hpl) hdb)
  obtain ⟨vs, H1, J, rv, hz, q1⟩ := z
  refine ⟨J.kIn, ?_⟩
  show wpAny _ _ (call (.ref C) us) _ _ _
  obtain ⟨hp, g, dr, tk, os⟩ := s1
  obtain ⟨nm, N, qn, bs, bm, hd, sn, sub, ab, col, dd, k0, k1, k2, k3, k5, hC, hT⟩ := PySem.W.excInit_of J.kIn T.ii
  have sz : hp.objs.size ≤ hp.objs.size + 1 := Nat.le_succ _
  have want := q1 (hp.objs.size + 1) (J.hok.fresh sz)
  generalize hh2 : (hp.push (PySem.W.kdv_tup us)).push (PySem.HandSPX.excO C hp.objs.size) = h2
  have kk : ∀ b o, hp.get? b = some o → h2.get? b = some o := fun b o q => by rw [← hh2]; exact Heap.get?_push_of_some _ (Heap.get?_push_of_some _ q)
  have hget : h2.get? (hp.objs.size + 1) = some (PySem.HandSPX.excO C hp.objs.size) := by rw [← hh2]; heap_get
  have J2 : Inv X pins σ (upd H1 (hp.objs.size + 1) (exo (hp.objs.size + 1) C none)) ⟨h2, g, dr, tk, os⟩ := J.laid (t' := tk) (a := hp.objs.size + 1) (h' := h2) kk sz (exo_ok hget)
  rw [List.append_nil] at want
  have r2 : Vals (V.ref (hp.objs.size + 1) :: vs) (Value.ref (hp.objs.size + 1) :: us) := .cons rfl rv
  have hl : (Value.ref (hp.objs.size + 1) :: us).length = ps.length := r2.length.symm.trans (F1.len _ _ _ _ want)
  have bt := hb ⟨h2, g, dr, tk, os⟩ (Value.ref (hp.objs.size + 1) :: us) J2.kIn (by rw [List.append_nil]; exact hl)
  rw [List.append_nil] at bt
  have hus : us.length ≤ sizeLine := by
    have := Paired.length rv
    rw [sizeLine_eq]; omega
  refine wpAny_call (PySem.HandSPX.call_own T.fb hT hC (PySem.W.looks_findIn J.kIn M.at_) (fun self => PySem.W.bind_fn J.kIn self (beq_iff_eq.mp M.fn)) hus ?_)
  rw [hh2]
  refine codeAny_mono (F1.run _ X.stack _ _ ⟨Value.ref (hp.objs.size + 1) :: us, []⟩ (Value.ref (hp.objs.size + 1) :: us) _ _ (fun _ _ _ => False) (hr.make C us []) (J2.env0.make C us []) bt r2 want) fun r s' w => ?_
  match r, w with
  | .error er, w => exact hx pins σ _ _ er s' J2 w
  | .ok .next, w => exact False.elim w
  | .ok .brk, w => exact False.elim w
  | .ok .cont, w => exact False.elim w
  | .ok (.ret v), ⟨rv', H2, os2, bare2, un2, hok2, rel, en, d, fs, ea, ed, hd1, q2⟩ =>
    subst en
    obtain ⟨h3, g2, d2, t2, os'⟩ := s'
    exact ⟨rel, mk_end (raises_own T.exC T.tyC) J sz kk un2 hok2 os2 bare2 ea ed hd1 q2⟩
end
end Cr

/-! CrX3: a caught exception that is kept behind the suite. -/
namespace Cr
open PySem PySem.Spec PyProof.Rows L2
/-- at a: an exception of the class cls, its own dict at d -/
def ExK (a : Addr) (cls : Value) (d : Option Addr) : HO := .ext fun h => ∃ (oe : Obj) (vs : Array Value), h.get? a = some oe ∧ Zc cls d oe ∧ oe.data = .fields vs
theorem exK_ok {P : Program} {w : World} {H : Hp} {h : Heap} {a : Addr} {cls : Value} {d : Option Addr} {oe : Obj} {vs : Array Value} (e : h.get? a = some oe) (z : Zc cls d oe) (f : oe.data = .fields vs) : ObjOk P w H h a (ExK a cls d) :=
  ⟨⟨oe, vs, e, z, f⟩, ⟨oe, e⟩, fun _ _ ⟨o, v, q, r⟩ k => ⟨o, v, k o q, r⟩⟩
theorem exK_at {P : Program} {w : World} {H : Hp} {h : Heap} {a : Addr} {cls : Value} {d : Option Addr} (hok : HOk P w H h) (e : H a = some (ExK a cls d)) : ∃ (oe : Obj) (vs : Array Value), h.get? a = some oe ∧ Zc cls d oe ∧ oe.data = .fields vs := by
  have q := hok a _ e
  exact q.1
section
variable {X : Cx} {pins : List (Addr × Obj)} {σ : L2.St} {H : Hp} {s : Shared} {a : Addr}
/-- an object that was not followed is followed from here on -/
theorem adopt {oe : Obj} {vs : Array Value} {cls : Value} {d : Option Addr} (I : Inv X pins σ H s) (ha : s.heap.get? a = some oe) (hz : Zc cls d oe) (hd : oe.data = .fields vs) (na : H a = none) (nL : a ≠ X.env.locals) (n0 : X.s_0.heap.get? a = none)
    (np : ∀ p ∈ X.pn ++ pins, p.1 ≠ a) : Inv X pins σ (upd H a (ExK a cls d)) s := by
  have up : ∀ {b : Addr} {o : HO}, H b = some o → (upd H a (ExK a cls d)) b = some o := fun {b o} q => by rw [upd_ne (ne_of_none q na)]; exact q
  refine ⟨I.ok, I.os, I.bare, ⟨I.base.keep, I.base.slot, fun b o q n x => ?_, I.base.there, fun b xs q => up (I.base.tups b xs q), fun b o v q => up (I.base.frzs b o v q), fun b ps q => ?_⟩, I.loc, I.cell, ?_, fun x c q => ?_, fun p hp => ?_, fun b o q => ?_, I.len⟩
  · rw [upd_ne (fun z => by rw [z, n0] at q; cases q)]
    exact I.base.free b o q n x
  · obtain ⟨more, q'⟩ := I.base.tbls b ps q
    exact ⟨more, up q'⟩
  · rw [upd_ne (Ne.symm nL)]; exact I.free
  · obtain ⟨v, oc, ec, dc⟩ := I.cell x c q
    rw [upd_ne (fun z => by
      rw [z, ha] at ec
      cases ec
      rw [hd] at dc
      cases dc)]
    exact I.freeC x c q
  · obtain ⟨p1, p2, p3⟩ := I.pin p hp
    exact ⟨p1, by rw [upd_ne (np p hp)]; exact p2, p3⟩
  · by_cases hb : b = a
    · subst hb
      rw [upd_same] at q
      cases q
      exact exK_ok ha hz hd
    · rw [upd_ne hb] at q
      exact (I.hok b o q).stay (fun _ _ _ z => z) (fun _ z => up z) fun _ _ z => up z
end
/-- what 'except x as n: suite' wishes of an exception of the body, where the exception is kept -/
def wKeep (K : PySem.W.Frag) (c : Value) (i : Nat) (ts : Addr → TS) (D : Ends) : WX := fun cls d σ H =>
  PySem.W.exmOne K cls c = some true ∧ ∀ a, H a = none → ts a { nx := fun σ' H' => D.nx (σ'.set i none) (upd H' a (ExK a cls d)), rt := fun _ _ => False, bk := fun _ _ => False, ct := fun _ _ => False } (σ.set i (some (.ref a))) H
section
variable {X : Cx} {x n : Str} {c : Value} {i : Nat} {body suite : List Stmt} {b₀ : Stmt} {np pos pos' : Pos} {tb : WX → TS} {ts : Addr → TS}
theorem ps_try_keep (hs : X.stack = X.env :: X.outer) (hf : X.env.frame = some X.env.locals) (hex : X.ex = []) (hN : X.N.Nodup) (hi : X.N[i]? = some n) (hln : X.env.kindOf n = some .local) (hc : Names X x c)
    (hb : ∀ (W : WX) (pn : List (Addr × Obj)) (xe : Value → Shared → Prop), Takes (X.tr pn xe) W → PassesOwn (model X.prog X.w) X.A X.env xe → PSs (X.tr pn xe) body (tb W))
    (hsu : ∀ (a : Addr) (oe : Obj) (pn : List (Addr × Obj)), PSs (X.suite a ((a, oe) :: pn)) (b₀ :: suite) (ts a)) :
    PS X (.Try body [.ExceptHandler (some (.Name x np)) (some n) (b₀ :: suite) pos'] [] [] pos) (fun D σ H => tb (wKeep X.K c i ts D) D σ H) := by
  refine ⟨fun pins s σ H D I h => wpAny_Try_except ?_⟩
  have ok := I.ok
  have hfr : X.A.frames = some (X.env :: X.outer) := by rw [ok.frames, hs]
  refine wpAny_mono ((hb (wKeep X.K c i ts D) (X.pn ++ pins) _ ?air PassesOwn.looking).run [] s σ H D (I.toTry _) h) (fun fl s1 w => ?_) fun _ _ z => z
  case air =>
    rintro u s' ⟨a, B, sI, pins', σ', H', cls, d, rfl, J', nb, up, sky, na, os, ag, hm, hyes⟩
    have J : Inv X pins σ' H' sI := J'.ofTry ok
    rw [show (X.tr (X.pn ++ pins) _).stack = X.env :: X.outer from hs] at sky
    refine Sky.land Zc.steady hfr hf sky fun h3 fl3 up3 => ?_
    have gone : B.get? a = none := fl3.2.1
    obtain ⟨oe3, vs3, he3, hz3, hd3⟩ := fl3.there
    have nfr : a ∉ frs (X.env :: X.outer) := fun hm' => by
      obtain ⟨_, o', e', hnf⟩ := fl3.2.2.1.mem hm'
      rw [he3] at e'
      cases e'
      exact hnf _ hd3
    have inB : ∀ o, sI.heap.get? a = some o → False := fun o q => by
      have := nb a o q (by rw [show (X.tr (X.pn ++ pins) _).stack = X.env :: X.outer from hs]; exact nfr)
      rw [gone] at this
      cases this
    have nL : a ≠ X.env.locals := fun z => nfr (List.mem_filterMap.mpr ⟨X.env, List.mem_cons_self, by rw [hf, z]⟩)
    have nF : a ∉ X.fs := fun hm' => by
      obtain ⟨en, hen, q⟩ := List.mem_filterMap.mp hm'
      exact nfr (List.mem_filterMap.mpr ⟨en, List.mem_cons_of_mem _ hen, q⟩)
    have n0 : X.s_0.heap.get? a = none := by
      cases e0 : X.s_0.heap.get? a with
      | none => rfl
      | some o =>
        obtain ⟨o', q⟩ := J.base.there a o e0 (by rw [hex]; simp)
        exact (inB o' q).elim
    have npin : ∀ p ∈ X.pn ++ pins, p.1 ≠ a := fun p hp z => inB p.2 (by rw [← z]; exact (J.pin p hp).1)
    have J3 : Inv X pins σ' H' { s' with heap := h3 } := J.landed nb fl3.1 (up.trans up3) os ag
    have S3 := J3.suite he3 hd3 na nL nF
    have LT : PySem.W.Looks (model X.prog X.w) h3 (typeOf (.ref a)) cls := fun A' Q' E' s1 kk q => wpAny_typeOf_ref (kk _ _ he3) (by rw [hz3.1]; exact q)
    have name : ∀ {Q' : Value → Shared → Prop} {E' : Value → Shared → Prop}, Q' c { s' with heap := h3 } → wpAny (model X.prog X.w) (X.A.mark (some (.ref a))) (eval (.Name x np) X.env) Q' E' { s' with heap := h3 } := fun {Q' E'} q => by
      obtain ⟨hg, hdbg, hm1 | ⟨hm1, hv, hnn⟩⟩ := hc
      · exact ld_glob (X := X.suite a ((a, oe3) :: (X.pn ++ pins))) S3 hg hm1 q hdbg
      · exact ld_blt (X := X.suite a ((a, oe3) :: (X.pn ++ pins))) S3 hg hm1 hv q hnn hdbg
    refine PySem.W.exc_clause_as (name ⟨true, PySem.W.exm_one (M := model X.prog X.w) J3.kIn LT hm, ?_⟩)
    rw [if_pos rfl]
    refine HandSPX.lands_againZ fl3 fun h4 fl4 up4 => ?_
    have J4 : Inv X pins σ' H' { s' with heap := h4 } := J.landed nb fl4.1 ((up.trans up3).trans up4) os ag
    obtain ⟨oe4, vs4, he4, hz4, hd4⟩ := fl4.there
    refine store_ok (X := X.suite a ((a, oe4) :: (X.pn ++ pins))) (v := .ref a) (J4.suite he4 hd4 na nL nF) hN hi (.inl hln) rfl (fun s5 S5 => ?_) (.inr hln)
    refine wpAny_mono ((hsu a oe4 (X.pn ++ pins)).run [] s5 _ H' _ S5 (hyes a na)) (fun fl s6 w => ?_) fun _ _ z => False.elim z
    match fl, w with
    | .next, ⟨σ6, H6, S6, q6⟩ =>
      obtain ⟨p1, p2, _⟩ := S6.pin (a, oe4) (by simp [Cx.suite])
      exact gone_ok (adopt (S6.unsuite ok) p1 hz4 hd4 p2 nL n0 npin) hN hi hln fun s7 J7 => ⟨_, _, J7, q6⟩
    | .brk, ⟨_, _, _, q⟩ => exact q.elim
    | .cont, ⟨_, _, _, q⟩ => exact q.elim
    | .ret _, ⟨_, _, _, _, _, q⟩ => exact q.elim
  · match fl, w with
    | .next, ⟨σ', H', J, q⟩ => exact wpAny_execs_nil ⟨σ', H', J.ofTry ok, q⟩
    | .brk, ⟨σ', H', J, q⟩ => exact ⟨σ', H', J.ofTry ok, q⟩
    | .cont, ⟨σ', H', J, q⟩ => exact ⟨σ', H', J.ofTry ok, q⟩
    | .ret u, ⟨v, σ', H', J, r, q⟩ => exact ⟨v, σ', H', J.ofTry ok, r, q⟩
end
end Cr

/-! CrX4: isinstance and fields of a kept exception. -/
namespace Cr
open PySem PySem.Spec PyProof.Rows L2
/-- a kept exception with its fields -/
def XkAt (H : Hp) (a C : Addr) (fs : List (Str × V)) : Prop := ∃ d, H a = some (ExK a (.ref C) (some d)) ∧ H d = some (.xd fs)
theorem XkAt.up {H H' : Hp} {a C : Addr} {fs : List (Str × V)} (h : XkAt H a C fs) (s : Same H H') : XkAt H' a C fs := by
  obtain ⟨d, e1, e2⟩ := h
  exact ⟨d, s _ _ e1, s _ _ e2⟩
section
variable {X : Cx} {pins : List (Addr × Obj)} {σ : L2.St} {H : Hp} {s : Shared} {a C : Addr} {fs : List (Str × V)} {B newId initId : String} {tl : List Value}
theorem xk_inst (I : Inv X pins σ H s) (h : XkAt H a C fs) : ∃ (oe od : Obj) (mA : Str → Option Value), PySem.W.InstAt s.heap a oe C (some od) ∧ (∀ f, RelO (fs.lookup f) (mA f)) ∧ ∀ f, PySem.W.lookIn f od = some (mA f) := by
  obtain ⟨d, e1, e2⟩ := h
  obtain ⟨oe, vs, he, hz, hd⟩ := exK_at I.hok e1
  obtain ⟨mA, hns, hr⟩ : ∃ mA, s.heap.Ns1 d mA ∧ ∀ f, RelO (fs.lookup f) (mA f) := I.hok d _ e2
  obtain ⟨od, ho, hl⟩ := lookIn_ns hns
  exact ⟨oe, od, mA, ⟨he, hz.1, by unfold PySem.W.notCls; rw [hd] <;> rfl, by rw [hz.2]; exact ho⟩, hr, hl⟩
theorem xk_kit (T : ExB X.K C B newId initId tl) (I : Inv X pins σ H s) (h : XkAt H a C fs) : ∃ P : Heap → Prop, PySem.W.KitX X.K (.ref a) (.ref C) P ∧ P s.heap := by
  obtain ⟨oe, od, mA, IA, _⟩ := xk_inst I h
  obtain ⟨g, hg⟩ := T.gt
  exact ⟨_, PySem.W.kitx_exc (ox := oe) (od := some od) (show (PySem.W.clsIn X.K C).isSome = true from T.ci) T.ga hg T.exC T.ca T.cn T.ct T.ob, IA⟩
/-- isinstance(e, T) of a kept exception -/
theorem call_isX (T : ExB X.K C B newId initId tl) : CallR X (.builtin "isinstance") (fun xs H Q => ∃ (a : Addr) (fs : List (Str × V)) (c : V) (u : Value) (b : Bool), xs = [.ref a, c] ∧ XkAt H a C fs ∧ ClsV c u ∧ PySem.W.kitOne X.K (.ref C) u = some b ∧ Q (.bl b) H) := by
  intro pins s σ H xs us Q I r h
  obtain ⟨a, fs, c, u, b, rfl, hk, cv, e, q⟩ := h
  obtain ⟨u1, u2, rfl, r1, r2⟩ := vals2 r
  obtain rfl : u1 = Value.ref a := r1
  have e2 := cv.eq r2
  subst e2
  obtain ⟨P, Z, p⟩ := xk_kit T I hk
  exact PySem.W.kia_one Z I.kIn p e (by intro z; cases z) fun tk => ⟨.bl b, H, I.tok tk, rfl, q⟩
/-- isinstance(e, (T, ..)) of a kept exception -/
theorem call_isXT (T : ExB X.K C B newId initId tl) : CallR X (.builtin "isinstance") (fun xs H Q => ∃ (a tp : Addr) (fs : List (Str × V)) (cs : List V) (ws : List Value) (b : Bool), xs = [.ref a, .ref tp] ∧ XkAt H a C fs ∧ H tp = some (.tup cs) ∧ Paired ClsV cs ws ∧ PySem.W.kitAny X.K (.ref C) ws = some b ∧ Q (.bl b) H) := by
  intro pins s σ H xs us Q I r h
  obtain ⟨a, tp, fs, cs, ws, b, rfl, hk, ht, cv, e, q⟩ := h
  obtain ⟨u1, u2, rfl, r1, r2⟩ := vals2 r
  obtain rfl : u1 = Value.ref a := r1
  obtain rfl : u2 = Value.ref tp := r2
  obtain ⟨P, Z, p⟩ := xk_kit T I hk
  have ot : ObjOk X.prog X.w H s.heap tp (.tup cs) := I.hok tp _ ht
  obtain ⟨_, its, rv, ⟨oc, odd, dt, sl⟩, g1, g2, n, g3⟩ := ot
  obtain rfl := ClsV.all cv rv
  simp only at g2 g3
  subst g2 g3
  exact PySem.W.kia_tup Z I.kIn p g1 e (by intro z; cases z) fun tk => ⟨.bl b, H, I.tok tk, rfl, q⟩
end
end Cr

/-! CrX5: o.m(k = v, ..), what is raised wished for at the caller's slots; binding by one keyword; wide products in place. -/
namespace Cr
open PySem PySem.Spec PyProof.Rows L2
theorem kbn_all {K : PySem.W.Frag} {x qual : Str} {st : Stmt} {f : Addr} {fd : FuncData} {ps ks : List Str} {n : Nat} (F : Fun K x qual st f fd)
    (h : ∀ (kV doc pm : Value) (an : Option Addr) (cdv ct : Value) (us ws : List Value), us.length = n → ws.length = ks.length → bindArgs (PySem.W.fnOf x qual (defArgs st) (defBody st) (defScope st) .none kV doc pm an cdv ct) ⟨us, ks.zip ws⟩ = pure (ps.zip (us ++ ws))) :
    KBn K fd ps n ks (fun us ws => us ++ ws) (fun vs zs => vs ++ zs) := by
  obtain ⟨oc, od, kV, doc, pm, an, cdv, ct, osl, rfl, lk, hcd⟩ := F.ex
  exact ⟨fun s us ws X l1 l2 => BindsTo.of_looks fun M => .of_pure (h kV doc pm an cdv ct us ws l1 l2), fun r1 r2 => r1.append r2⟩
section
variable {X : Cx} {CX : CXT} {k : Nat} {f C : Addr} {fd : FuncData} {ps ks : List Str} {sp : Sp} {E : L2.St → XK} {m : Str} {apos pos : Pos} {o : Expr} {ta : TE} {tk : TA} {kws : List Keyword}
end
theorem ip_mulW {X : Cx} : PIp X .Mult (rI CMulW fun i j => .int (i * j)) := by
  have h : OpR X (inplaceOp .Mult) (rI CMulW fun i j => .int (i * j)) := opI fun _ _ _ _ _ _ _ hc q => imul_int q hc.ok
  intro pins s σ H x y v u Q I r1 r2 w
  exact h pins s σ H x y v u Q I r1 r2 w
end Cr

/-! Cr6: a walk over a list within any frame of a comprehension. -/
namespace Cr
open PySem L2
section
variable {g : TG} {tb : TS} {D : Ends} {σ : L2.St} {H : Hp}
end
end Cr

/-! CrX6: f(k = v, ..) by keywords alone; a callee that may raise, but does not here. -/
namespace Cr
open PySem PySem.Spec PyProof.Rows L2
section
variable {X : Cx} {CX : CXT} {k : Nat} {f : Addr} {fd : FuncData} {ps ks : List Str} {sp : Sp} {E : XK} {x : Str} {p pos : Pos} {tk : TA} {kws : List Keyword} {g : List Value → List Value → List Value} {gV : List V → List V → List V}
end
end Cr

/-! Cr7: a comprehension over a text's signs. -/
namespace Cr
open PySem L2
end Cr

/-! CrS: a, *b = xs. -/
namespace Cr
open PySem PySem.Spec PySem.W PyProof.Rows L2
section
variable {X : Cx} {pos : Pos} {pins : List (Addr × Obj)} {σ : L2.St} {H : Hp} {s : Shared}
theorem pgs_star {e : Expr} {p : Pos} {es : List Expr} {t : TG} {u : TGs} (h1 : PG X e t) (h2 : PGs X es u)
    (hs : (assignEach (.Starred e p :: es) X.env).map (·.2) = assign e X.env :: (assignEach es X.env).map (·.2) := by rfl) : PGs X (.Starred e p :: es) (gCons t u) := by
  refine ⟨fun pins s σ H vs us Q I r h => ?_⟩
  obtain ⟨v, vr, e1, h⟩ := h
  subst e1
  cases r with
  | cons r rr =>
    rw [hs]
    refine assignInOrder_cons (thn (h1.run pins s σ H _ _ _ I r h) fun _ s1 ⟨σ1, H1, I1, q1⟩ => ?_)
    exact h2.run pins s1 σ1 H1 _ _ Q I1 rr q1
theorem vals_take {xs : List V} {its : List Value} (r : Vals xs its) : ∀ i : Nat, Vals (xs.take i) (its.take i) := by
  induction r with
  | nil => intro i; simp only [List.take_nil]; exact .nil
  | cons h t ih =>
    intro i
    cases i with
    | zero => exact .nil
    | succ i => simp only [List.take_succ_cons]; exact .cons h (ih i)
theorem vals_drop {xs : List V} {its : List Value} (r : Vals xs its) : ∀ i : Nat, Vals (xs.drop i) (its.drop i) := by
  induction r with
  | nil => intro i; simp only [List.drop_nil]; exact .nil
  | cons h t ih =>
    intro i
    cases i with
    | zero => exact .cons h t
    | succ i => simp only [List.drop_succ_cons]; exact ih i
def gStarL (K : PySem.W.Frag) (n i : Nat) (t : TGs) : TG := fun v σ H Q => ∃ a xs, v = .ref a ∧ SqL K H a xs ∧ n ≤ xs.length + 1 ∧ xs.length ≤ 16384 ∧
  ∀ p, H p = none → t (xs.take i ++ [.ref p] ++ (xs.drop i).drop (xs.length + 1 - n)) σ (upd H p (.lst ((xs.drop i).take (xs.length + 1 - n)))) Q
theorem star_end {E : Value → Shared → Prop} {A : Around} {its : List Value} {xs : List V} {n i : Nat} {h₂ : Heap} {tk : Tok} {Q : List Value → Shared → Prop} (I : Inv X pins σ H s) (rv : Vals xs its) (hz : xs.length ≤ 16384) (he : ∀ b o, s.heap.get? b = some o → h₂.get? b = some o)
    (h : ∀ p s', H p = none → Inv X pins σ (upd H p (.lst ((xs.drop i).take (xs.length + 1 - n)))) s' → Q (its.take i ++ [.ref p] ++ (its.drop i).drop (xs.length + 1 - n)) s') :
    wpAny (model X.prog X.w) A (newList ((its.drop i).take (its.length + 1 - n)) >>= fun d => pure (its.take i ++ [d] ++ (its.drop i).drop (its.length + 1 - n))) Q E { s with heap := h₂, toks := tk } := by
  have el : its.length = xs.length := rv.length.symm
  rw [el]
  have J : Inv X pins σ H { s with heap := h₂, toks := tk } := I.kept (t' := tk) he
  have hlen : ((its.drop i).take (xs.length + 1 - n)).length ≤ sizeLine := by
    rw [List.length_take, List.length_drop, sizeLine_eq]; omega
  refine wpAny_bind (wpAny_newList ?_ hlen)
  refine wpAny_pure (h h₂.objs.size _ (J.hok.fresh (Nat.le_refl _)) ?_)
  refine J.laid (t' := tk) (fun b u e => Heap.get?_push_of_some _ e) (Nat.le_refl _) ?_
  refine (show ObjOk X.prog X.w _ _ _ (.lst ((xs.drop i).take (xs.length + 1 - n))) from ⟨?_, (its.drop i).take (xs.length + 1 - n), 0, vals_take (vals_drop rv i) _, ?_⟩)
  · rw [List.length_take, List.length_drop, sizeLine_eq]; omega
  · exact Heap.get?_push_size _ rfl
theorem pg_starL {es : List Expr} {k n i : Nat} {t : TGs} (hc : X.calm = true) (h : PGs X es t) (hn : (assignEach es X.env).length = n := by rfl) (hst : (assignEach es X.env).findIdx? (·.1) = some i := by rfl) (hi : i < n := by decide) :
    PG X (.Tuple es k pos) (gStarL X.K n i t) := by
  refine ⟨fun pins s σ H v u Q I r hw => ?_⟩
  obtain ⟨a, xs, e1, hq, hl, hz, hw⟩ := hw
  subst e1
  cases r
  obtain ⟨its, rv, hp, _⟩ := I.list hq
  have ht : s.heap.IsList a its.toArray := by obtain ⟨o, n', e1, e2, _, e4⟩ := hp; exact ⟨o, e1, e2, n', e4⟩
  have hh := I.ok.hd hc
  have el : its.length = xs.length := rv.length.symm
  have hlt : a ≠ s.heap.objs.size := by obtain ⟨o, ho, _⟩ := ht; exact Nat.ne_of_lt (Heap.lt_size ho)
  rw [assign_Tuple]
  refine wpAny_bind (wpAny_standAt ?_)
  unfold unpack
  rw [hn, hst]
  refine wpAny_bind (wpAny_holding ?_)
  unfold unpackItems
  refine wpAny_bind ?_
  unfold notIterableAtAll
  refine wpAny_bind (wpAny_specialOf ht.typeIs slot_list_iter.lookup ?_)
  refine wpAny_pure ?_
  simp only [Bool.false_eq_true, if_false]
  refine wpAny_bind (wpAny_holding (wpAny_pyIter_list ht ?_))
  refine wpAny_bind (wpAny_holding (kun_draw hlt i 0 _ _ ⟨_, Heap.get?_push_size _ rfl, rfl, rfl⟩ (ht.push _) (by rw [List.size_toArray]; omega) fun h₁ hit₁ hs₁ => ?_))
  have ht₁ : h₁.IsList a its.toArray := (ht.push _).extBut hs₁.extBut hlt
  rw [Nat.zero_add] at hit₁
  have hit₁' := hit₁
  obtain ⟨oi, hoi, _⟩ := hit₁'
  have ht₁' := ht₁
  obtain ⟨ol, hol, _⟩ := ht₁'
  rw [List.drop_zero]
  show wpAny _ _ (if (its.take i).length < i then _ else _) _ _ _
  rw [if_neg (by rw [List.length_take]; omega)]
  refine wpAny_bind (wpAny_holding (kun_collect (s := { s with heap := h₁ }) (T := "list_iterator") (.inr (.inr (.inl rfl))) (Walks.list (A := X.A.in1) hh s.heap.objs.size a hlt its.toArray) (fun j u st => st.1.typeIs) (k := i) (by rw [List.size_toArray]; omega) ⟨hit₁, ht₁⟩ (Heap.lt_size hoi) (Heap.lt_size hol) (fun h₂ tk hk => ?_) (by rw [List.size_toArray, sizeLine_eq]; omega)))
  have hrl : (its.drop i).length = its.length - i := by rw [List.length_drop]
  have hmid : (its.drop i).length - (n - 1 - i) = its.length + 1 - n := by rw [hrl]; omega
  show wpAny _ _ (if (its.drop i).length < n - 1 - i then _ else _) _ _ _
  rw [if_neg (by rw [hrl]; omega)]
  show wpAny _ _ (newList ((its.drop i).take ((its.drop i).length - (n - 1 - i))) >>= fun d => pure (its.take i ++ [d] ++ (its.drop i).drop ((its.drop i).length - (n - 1 - i)))) _ _ _
  rw [hmid]
  refine star_end (s := s) (n := n) (i := i) I rv hz (fun b o e => ?_) fun p s' np J => ?_
  · have hb : b ≠ s.heap.objs.size := Nat.ne_of_lt (Heap.lt_size e)
    exact hk b o hb (hs₁.extBut b o hb (Heap.get?_push_of_some _ e))
  · have r1 : Vals [V.ref p] [Value.ref p] := .cons rfl .nil
    exact h.run pins s' σ _ _ _ Q J (((vals_take rv i).append r1).append (vals_drop (vals_drop rv i) _)) (hw p np)
/-! ### a list against the empty one -/
theorem isList_of (I : Inv X pins σ H s) {a : Addr} {xs : List V} (h : SqL X.K H a xs) : ∃ its : List Value, Vals xs its ∧ s.heap.IsList a its.toArray := by
  obtain ⟨its, rv, hp, _⟩ := I.list h
  obtain ⟨o, n', e1, e2, _, e4⟩ := hp
  exact ⟨its, rv, o, e1, e2, n', e4⟩
theorem op_neE (hu : X.A.units + 64 < cLine) : OpR X (compareOp .NotEq) (fun x y H Q => ∃ (a b : Addr) (xs : List V), x = .ref a ∧ y = .ref b ∧ SqL X.K H a xs ∧ SqL X.K H b [] ∧ Q (.bl (!xs.isEmpty)) H) := by
  intro pins s σ H x y v u Q I rx ry h
  obtain ⟨a, b, xs, rfl, rfl, ha, hb, q⟩ := h
  cases xs with
  | nil => exact op_neD hu pins s σ H _ _ v u Q I rx ry ⟨.list [], .list [], .lst ha .nil, .lst hb .nil, by rfl, by rfl, q⟩
  | cons y ys =>
    cases rx
    cases ry
    obtain ⟨ia, ra, la⟩ := isList_of I ha
    obtain ⟨ib, rb, lb⟩ := isList_of I hb
    have e1 := ra.length
    have e2 := rb.length
    show wpAny _ _ (richCompare .NotEq (.ref a) (.ref b)) _ _ _
    refine PySem.SeqAt.RcNeAt.lists_lengths la lb ?_ (by omega) _ _ _ _ ⟨.bl true, H, I, rfl, q⟩
    rw [List.size_toArray, List.size_toArray, ← e1, ← e2]
    simp
theorem op_eqE (hu : X.A.units + 64 < cLine) : OpR X (compareOp .Eq) (fun x y H Q => ∃ (a b : Addr) (xs : List V), x = .ref a ∧ y = .ref b ∧ SqL X.K H a xs ∧ SqL X.K H b [] ∧ Q (.bl xs.isEmpty) H) := by
  intro pins s σ H x y v u Q I rx ry h
  obtain ⟨a, b, xs, rfl, rfl, ha, hb, q⟩ := h
  cases xs with
  | nil => exact op_eqD hu pins s σ H _ _ v u Q I rx ry ⟨.list [], .list [], .lst ha .nil, .lst hb .nil, by rfl, by rfl, q⟩
  | cons y ys =>
    cases rx
    cases ry
    obtain ⟨ia, ra, la⟩ := isList_of I ha
    obtain ⟨ib, rb, lb⟩ := isList_of I hb
    have e1 := ra.length
    have e2 := rb.length
    show wpAny _ _ (richCompare .Eq (.ref a) (.ref b)) _ _ _
    refine PySem.SeqAt.RcAt.lists_lengths la lb ?_ (by omega) _ _ _ _ ⟨.bl false, H, I, rfl, q⟩
    rw [List.size_toArray, List.size_toArray, ← e1, ← e2]
    simp
end
end Cr

/-! CrU: tuples put together and cut, wherever the outcome stands. -/
namespace Cr
open PySem L2
theorem cutV_all {xs : List V} {lo hi : Option Int} (h : HT.sIx xs.length 0 lo = 0 ∧ HT.sIx xs.length xs.length hi = xs.length) : cutV xs lo hi = xs := by
  unfold cutV
  rw [h.1, h.2, List.drop_zero, Nat.sub_zero, List.take_length]
end Cr

/-! CrW: texts as lists of signs: split at a sign, rstrip, whole numbers as they are written. -/
namespace Cr
open PySem PySem.Builtin PySem.Builtin.Str L2 TL NumText
/-! ### split at one sign -/
def sp1 (c : Nat) : List Nat → List (List Nat)
  | [] => [[]]
  | d :: r => if d = c then [] :: sp1 c r else match sp1 c r with
    | [] => [[d]]
    | p :: q => (d :: p) :: q
theorem sp1_ne (c : Nat) : ∀ l : List Nat, sp1 c l ≠ []
  | [] => by simp [sp1]
  | d :: r => by
    unfold sp1
    split
    · simp
    · split <;> simp
theorem sp1_hit {c : Nat} (r : List Nat) : sp1 c (c :: r) = [] :: sp1 c r := by rw [sp1, if_pos rfl]
theorem sp1_miss {c d : Nat} (r : List Nat) (h : d ≠ c) : ∃ p q, sp1 c r = p :: q ∧ sp1 c (d :: r) = (d :: p) :: q := by
  cases e : sp1 c r with
  | nil => exact absurd e (sp1_ne c r)
  | cons p q => exact ⟨p, q, rfl, by rw [sp1, if_neg h, e]⟩
theorem pre1 (c d : Nat) (r : List Nat) : pre [c] (d :: r) = decide (d = c) := by
  unfold pre
  by_cases h : d = c
  · simp [h]
  · simp [h]
theorem spl_sp1 (c : Nat) : ∀ (l acc : List Nat), ∃ p q, sp1 c l = p :: q ∧ spl [c] 0 acc l = (acc ++ p) :: q
  | [], acc => ⟨[], [], rfl, by rw [spl_nil, List.append_nil]⟩
  | d :: r, acc => by
    by_cases h : d = c
    · subst h
      obtain ⟨p, q, e1, e2⟩ := spl_sp1 d r []
      refine ⟨[], sp1 d r, sp1_hit r, ?_⟩
      rw [spl_hit (by rw [pre1]; simp)]
      show acc :: spl [d] 0 [] r = _
      rw [e2, e1, List.append_nil, List.nil_append]
    · obtain ⟨p, q, e1, e2⟩ := spl_sp1 c r (acc ++ [d])
      obtain ⟨p', q', e3, e4⟩ := sp1_miss r h
      rw [e1] at e3
      cases e3
      refine ⟨d :: p, q, e4, ?_⟩
      rw [spl_miss (by rw [pre1]; simp [h]), e2, List.append_assoc]
      rfl
theorem split_sp1 {x y : Str} {c : Nat} (ey : tl y = [c]) (hk : y.cps.all (· < 256) = true) : (Txt.split x y).map tl = sp1 c (tl x) := by
  obtain ⟨p, q, e1, e2⟩ := spl_sp1 c (tl x) []
  rw [split_spl x y (by rw [ey]; simp) (kind_ok hk), ey, e1, e2, List.nil_append]
theorem sp1_len (c : Nat) : ∀ l : List Nat, (sp1 c l).length = l.count c + 1
  | [] => rfl
  | d :: r => by
    have ih := sp1_len c r
    by_cases h : d = c
    · subst h
      rw [sp1_hit, List.length_cons, ih, List.count_cons_self]
    · obtain ⟨p, q, e1, e2⟩ := sp1_miss r h
      rw [e1, List.length_cons] at ih
      rw [e2, List.length_cons, ih, List.count_cons_of_ne h]
/-- an infix -/
def Inf (m l : List Nat) : Prop := ∃ a b, l = a ++ m ++ b
theorem Inf.len {m l : List Nat} (h : Inf m l) : m.length ≤ l.length := by
  obtain ⟨a, b, rfl⟩ := h
  simp only [List.length_append]; omega
theorem sp1_mem (c : Nat) : ∀ (l w : List Nat), w ∈ sp1 c l → c ∉ w ∧ Inf w l
  | [], w, h => by
    rw [List.mem_singleton.mp (show w ∈ [[]] from h)]
    exact ⟨by simp, [], [], rfl⟩
  | d :: r, w, h => by
    by_cases e : d = c
    · subst e
      rw [sp1_hit] at h
      rcases List.mem_cons.mp h with rfl | h
      · exact ⟨by simp, [], d :: r, rfl⟩
      · obtain ⟨h1, a, b, h2⟩ := sp1_mem d r w h
        exact ⟨h1, d :: a, b, by rw [h2]; rfl⟩
    · obtain ⟨p, q, e1, e2⟩ := sp1_miss r e
      rw [e2] at h
      rcases List.mem_cons.mp h with rfl | h
      · obtain ⟨h1, a, b, h2⟩ := sp1_mem c r p (by rw [e1]; exact List.mem_cons_self)
        have hp : ∃ b', r = p ++ b' := sp1_pre c r p q e1
        obtain ⟨b', hb⟩ := hp
        refine ⟨fun hm => ?_, [], b', by rw [hb]; rfl⟩
        rcases List.mem_cons.mp hm with hm | hm
        · exact e hm.symm
        · exact h1 hm
      · obtain ⟨h1, a, b, h2⟩ := sp1_mem c r w (by rw [e1]; exact List.mem_cons_of_mem _ h)
        exact ⟨h1, d :: a, b, by rw [h2]; rfl⟩
where sp1_pre (c : Nat) : ∀ (l p : List Nat) (q : List (List Nat)), sp1 c l = p :: q → ∃ b, l = p ++ b
  | [], p, q, h => by cases h; exact ⟨[], rfl⟩
  | d :: r, p, q, h => by
    by_cases e : d = c
    · subst e
      rw [sp1_hit] at h
      cases h
      exact ⟨d :: r, rfl⟩
    · obtain ⟨p', q', e1, e2⟩ := sp1_miss r e
      rw [e2] at h
      cases h
      obtain ⟨b, hb⟩ := sp1_pre c r p' q e1
      exact ⟨b, by rw [hb]; rfl⟩
theorem sp1_join {c : Nat} {ps : List (List Nat)} (hne : ps ≠ []) (hp : ∀ p ∈ ps, c ∉ p) : sp1 c (joinL [c] ps) = ps := by
  obtain ⟨p, q, e1, e2⟩ := spl_sp1 c (joinL [c] ps) []
  rw [spl_join hne hp, List.nil_append] at e2
  rw [e1, e2]
/-! ### rstrip of letters -/
def isL (c : Nat) : Bool := decide (97 ≤ c) && decide (c ≤ 122)
def rest (w : List Nat) : List Nat := (w.reverse.takeWhile isL).reverse
/-! ### slices -/
theorem cut_tail (z : Str) (k : Nat) : tl (cutS z (some (k : Int)) none) = (tl z).drop k := by
  unfold cutS
  rw [HT.sIx_nat, HT.sIx_none, len_tl]
  show ((tl z).drop (min k (tl z).length)).take ((tl z).length - min k (tl z).length) = _
  by_cases h : k ≤ (tl z).length
  · rw [Nat.min_eq_left h, List.take_of_length_le (by rw [List.length_drop]; omega)]
  · rw [Nat.min_eq_right (by omega), List.drop_length, List.drop_of_length_le (by omega)]; simp
theorem cut_head (z : Str) (k : Nat) : tl (cutS z none (some (k : Int))) = (tl z).take k := by
  unfold cutS
  rw [HT.sIx_nat, HT.sIx_none, len_tl]
  show ((tl z).drop 0).take (min k (tl z).length - 0) = _
  rw [List.drop_zero, Nat.sub_zero]
  by_cases h : k ≤ (tl z).length
  · rw [Nat.min_eq_left h]
  · rw [Nat.min_eq_right (by omega), List.take_length, List.take_of_length_le (by omega)]
theorem starts1 (x y : Str) (c : Nat) (e : tl y = [c]) : Txt.startswith x y = decide ((tl x).head? = some c) := by
  unfold Txt.startswith Builtin.Str.subAt
  have ly : y.length = 1 := by rw [len_tl, e]; rfl
  have ey : y.cps = #[c] := by
    apply Array.toList_inj.mp
    exact e
  rw [ly, ey]
  have hx : x.cps = (tl x).toArray := by simp
  rw [hx, len_tl]
  cases tl x with
  | nil => simp
  | cons d r =>
    simp
    by_cases h : d = c <;> simp [h]
/-! ### whole numbers as they are written -/
def digs (ds : List Nat) : Bool := ds.all fun c => decide (48 ≤ c) && decide (c ≤ 57)
theorem digs_all {ds : List Nat} (h : digs ds = true) : AllDigits ds := fun c hc => by
  have := List.all_eq_true.mp h c hc
  simpa using this
theorem all_digs {ds : List Nat} (h : AllDigits ds) : digs ds = true := List.all_eq_true.mpr fun c hc => by simpa using h c hc
/-- what stands behind the sign -/
def bare (cs : List Nat) : List Nat := if cs.head? = some 45 then cs.drop 1 else cs
def valL (cs : List Nat) : Int := if cs.head? = some 45 then -((digitsVal (cs.drop 1) : Nat) : Int) else ((digitsVal cs : Nat) : Int)
def whL (cs : List Nat) : Option Int :=
  if (bare cs).length = 0 ∨ 4000 < (bare cs).length ∨ digs (bare cs) = false then none
  else if (bare cs).head? = some 48 ∧ cs ≠ [48] then none else some (valL cs)
theorem int_valL {z : Str} (h0 : bare (tl z) ≠ []) (h1 : digs (bare (tl z)) = true) (h2 : z.length ≤ 4300) : intText? z = some (valL (tl z)) := by
  unfold bare at h0 h1
  unfold valL
  split at h0
  · next c =>
    rw [if_pos c] at h1 ⊢
    cases e : tl z with
    | nil => rw [e] at c; cases c
    | cons d r =>
      rw [e] at c h0 h1
      cases c
      exact intText_neg e (digs_all h1) h0 h2
  · next c =>
    rw [if_neg c] at h1 ⊢
    exact intText_digits (digs_all h1) h0 h2
def FIG : Str := "0123456789"
theorem fig_tl : tl FIG = [48, 49, 50, 51, 52, 53, 54, 55, 56, 57] := by decide +kernel
theorem fig_has (c : Nat) : decide (c ∈ tl FIG) = (decide (48 ≤ c) && decide (c ≤ 57)) := by
  rw [fig_tl]
  by_cases h : 48 ≤ c ∧ c ≤ 57
  · obtain ⟨a, b⟩ := h
    have : c ∈ [48, 49, 50, 51, 52, 53, 54, 55, 56, 57] := by simp only [List.mem_cons, List.not_mem_nil, or_false]; omega
    simp only [this, a, b, decide_true, Bool.and_self]
  · have : ¬ c ∈ [48, 49, 50, 51, 52, 53, 54, 55, 56, 57] := by simp only [List.mem_cons, List.not_mem_nil, or_false]; omega
    rw [decide_eq_false this]
    symm
    rw [Bool.and_eq_false_iff]
    by_cases a : 48 ≤ c
    · exact .inr (by simp; omega)
    · exact .inl (by simp; omega)
/-! ### a written number reads back -/
theorem numL_head {n : Nat} (h : (numL n).head? = some 48) : n = 0 := by
  induction n using Nat.strongRecOn with
  | _ n ih =>
    by_cases h10 : n < 10
    · rw [numL_lt h10] at h
      have : 48 + n = 48 := by simpa using h
      omega
    · rw [numL_step (by omega)] at h
      have hne := numL_ne (n / 10)
      have : (numL (n / 10)).head? = some 48 := by
        cases e : numL (n / 10) with
        | nil => exact absurd e hne
        | cons a b => rw [e] at h; exact h
      have := ih (n / 10) (by omega) this
      omega
theorem whL_num {n : Nat} (h : (numL n).length ≤ 4000) : whL (numL n) = some (n : Int) := by
  have hd := numL_digits n
  have hh : ¬ (numL n).head? = some 45 := fun e => by
    have := hd 45 (List.mem_of_head? e)
    omega
  have hb : bare (numL n) = numL n := if_neg hh
  unfold whL
  rw [hb, if_neg, if_neg]
  · unfold valL
    rw [if_neg hh, numL_val]
  · rintro ⟨h1, h2⟩
    have := numL_head h1
    subst this
    exact h2 (numL_lt (by decide))
  · have := numL_ne n
    rw [all_digs hd]
    rintro (h | h | h)
    · exact this (List.eq_nil_of_length_eq_zero h)
    · omega
    · cases h
end Cr

/-! CrL: len(o), bool(o), repr(o) by own methods. -/
namespace Cr
open PySem PySem.Spec PyProof.Rows L2
section
variable {prog : Program} {w : World} {A : Around} {K : PySem.W.Frag} {E : Value → Shared → Prop} {s : Shared} {a C f : Addr} {ox : Obj} {od : Option Obj}
end
section
variable {X : Cx} {C f : Addr} {fd : FuncData} {ps : List Str} {sp : Sp} {k : Nat}
end
/-! ### defs that want that no repr runs around -/
section
variable {X : Cx} {CX : CXT} {k : Nat} {f C : Addr} {fd : FuncData} {ps : List Str} {sp : Sp}
theorem run_atG {A : Around} {E : XK} {pins : List (Addr × Obj)} {σ : L2.St} {H : Hp} {s : Shared} {Q : VK} {us : List Value} {vs : List V} (F : FnG X.prog X.w X.K X.mg X.base CX k f fd ps sp) (room : Room k A) (gd : A.guards = some []) (fr : A.frames = X.A.frames)
    (hb : Binds X.K fd ps []) (hx : Passes CX X E) (I : Inv X pins σ H s) (r : Vals vs us) (h : sp vs H Q E) : wpAny (model X.prog X.w) A (call (.ref f) us) (EP X pins σ Q) X.xe s := by
  have hl : us.length = ps.length := r.length.symm.trans (F.len _ _ _ _ h)
  have e := I.env0
  have b := hb s us I.kIn (by rw [List.append_nil]; exact hl)
  rw [List.append_nil] at b
  refine wpAny_call (codeAny_mono (F.run A X.stack s H ⟨us, []⟩ us vs Q E room gd ⟨fr.trans e.frames, e.mod, e.bs, e.bsz, e.funs, e.frf, e.hok, e.bare⟩ b r h) fun r s' q => ?_)
  match r, q with
  | .error e, q => exact hx pins σ H s e s' I q
  | .ok (.ret u), q => exact I.after q
/-- repr(o) by an own __repr__ -/
theorem call_reprO (hs : PySem.W.findIn X.K (.ref C) "__repr__" = some (some (.ref f))) (hf : PySem.W.isFn X.K (.ref f) = true) (F : FnG X.prog X.w X.K X.mg X.base CX0 k f fd ps sp) (hb : Binds X.K fd ps []) (room : Room (k + 1) X.A) (gd : X.A.guards = some []) :
    CallR X (.builtin "repr") (fun xs H Q => ∃ a dx fs, xs = [.ref a] ∧ H a = some (.ins C dx fs) ∧ sp [.ref a] H (fun v H' => ∃ z, v = .str z ∧ Q (.str z) H') E0) := by
  intro pins s σ H xs us Q I r h
  obtain ⟨a, dx, fs, rfl, ha, h⟩ := h
  obtain ⟨u, rfl, ru⟩ := vals1 r
  cases ru
  obtain ⟨od, J⟩ := inst_at I ha
  refine call_function_entry_kw PySem.F.kind_repr PySem.F.plain_repr PySem.F.entry_repr (PySem.F.args_repr1 _) ?_
  unfold Builtin.«repr»
  refine wpAny_bind (m := oneArg "repr" _) (wpAny_pure ?_)
  refine wpAny_bind (m := cRoomFor _ _) (wpAny_cRoomFor (by have := room.un; show X.A.units + 1 < cLine; omega) ?_)
  have hsp : ∀ {Q' : Option Value → Shared → Prop}, Q' (some (.ref f)) s → wpAny (model X.prog X.w) X.A.in1 (specialOf (.ref a) "__repr__") Q' X.xe s := fun q => by
    unfold specialOf
    exact wpAny_bind (J.type.here ((PySem.W.looks_findIn I.kIn hs).here q))
  refine wpAny_bind (hsp ?_)
  refine wpAny_bind (m := callSpecialIfBound? (.ref a) (Str.ofString "__repr__") _) (PySem.W.ifBound_K I.kIn J hs hf ?_)
  refine wpAny_mono (run_atG F (room.in1.mono (by omega)) gd rfl hb pass0 I (vs := [.ref a]) (us := [.ref a]) (.cons rfl .nil) h) (fun v s' z => ?_) fun _ _ z => z
  obtain ⟨w, H', I', rw', b, rfl, q⟩ := z
  obtain ⟨t, rfl⟩ : ∃ t, v = .str b t := rw'
  refine wpAny_bind (wpAny_isInstance (T := "str") (b := true) (typeIs_str _ _ _) isSubtype_str_str ?_)
  exact wpAny_pure ⟨_, rfl, .str b, H', I', ⟨t, rfl⟩, q⟩
end
end Cr

/-! CrY: tuple[::-1], text * number. -/
namespace Cr
open PySem PySem.Spec PyProof.Rows L2
section
variable {prog : Program} {w : World} {A : Around} {E : Value → Shared → Prop} {s : Shared}
end
section
variable {X : Cx}
/-- text * number -/
def repS (x : Str) (n : Nat) : Str := ⟨(List.replicate n x.cps).foldl (· ++ ·) #[]⟩
theorem fold_size (x : Array Nat) : ∀ (n : Nat) (a : Array Nat), ((List.replicate n x).foldl (· ++ ·) a).size = a.size + x.size * n
  | 0, a => by simp
  | n + 1, a => by
    rw [List.replicate_succ, List.foldl_cons, fold_size x n, Array.size_append, Nat.mul_succ]
    omega
theorem repS_len (x : Str) (n : Nat) : (repS x n).length = x.length * n := by
  show ((List.replicate n x.cps).foldl (· ++ ·) #[]).size = x.cps.size * n
  rw [fold_size]
  simp
theorem op_repS : OpR X (binaryOp .Mult) (fun x y H Q => ∃ (z : Str) (n : Int), x = .str z ∧ y = .int n ∧ 2 ≤ n ∧ n ≤ 100000 ∧ 0 < z.length ∧ z.length * n.toNat ≤ sizeLine ∧ Q (.str (repS z n.toNat)) H) := by
  intro pins s σ H x y v u Q I rx ry h
  obtain ⟨z, n, rfl, rfl, h1, h2, h3, h4, q⟩ := h
  obtain ⟨t, rfl⟩ := rx
  obtain ⟨t', rfl⟩ := ry
  have hs := sizeLine_eq
  refine PySem.P.mul_str (by simp; omega) (fun _ _ => ?_) (fun _ _ => ?_) ?_
  · have hz : (z.length : Int) ≤ sizeLine := by
      have : z.length * 1 ≤ z.length * n.toNat := Nat.mul_le_mul_left _ (by omega)
      omega
    have : (sizeLine : Int) ≤ (2 ^ 63 - 1) / n := by
      rw [hs]
      rw [Int.le_ediv_iff_mul_le (by omega)]
      omega
    omega
  · show decide (z.length * n.toNat > sizeLine) = false
    rw [decide_eq_false_iff_not]; omega
  · rw [if_neg (by omega), if_neg (by simp; omega)]
    refine ⟨?_, .str _, H, I.tok _, ⟨_, rfl⟩, q⟩
    have : (repS z n.toNat).length = z.length * n.toNat := repS_len z n.toNat
    unfold repS at this
    rw [this]; exact h4
end
end Cr

/-! CrZ: sorted(list or tuple of ints). -/
namespace Cr
open PySem PySem.Spec PyProof.Rows L2
section
variable {X : Cx}
end
end Cr

/-! CrZs: zip(x, y, strict=True) of lists and tuples in any mix, both of one length. -/
namespace Cr
open PySem PySem.Spec PyProof.Rows L2
open PySem.Sem (wp)
open PySem.Builtin.SmallTypes (nextOf nextOrEnd ownedTupleIsFree ownedTupleHandOut)
section
variable {prog : Program} {w : World} {A : Around} {E : Value → Shared → Prop} {s : Shared} {z TI TO i1 i2 it : Addr} {fp fp1 fp2 : List Addr} {n i : Nat} {P P1 P2 : Nat → Value → Prop} {St S1 S2 : Nat → Heap → Prop} {a1 a2 : Value}
end
section
variable {prog : Program} {w : World} {A : Around} {E : Value → Shared → Prop} {s : Shared}
end
end Cr

/-! CrZt: for a, b in zip(x, y, strict=True). -/
namespace Cr
open PySem PySem.Spec PyProof.Rows L2
open PySem.Sem (wp)
def SeB (k : Bool) (h : Heap) (a : Addr) (xs : Array Value) : Prop := match k with
  | true => h.IsTuple a xs
  | false => h.IsList a xs
def IrB (k : Bool) (h : Heap) (it a : Addr) (i : Nat) : Prop := match k with
  | true => h.IsTupleIter it a i
  | false => h.IsListIter it a i
theorem IrB.at {k : Bool} {h h' : Heap} {it a : Addr} {i : Nat} (x : IrB k h it a i) (e : ∀ o, h.get? it = some o → h'.get? it = some o) : IrB k h' it a i := by
  cases k
  · exact Heap.IsListIter.at x e
  · exact Heap.IsTupleIter.at x e
theorem SeB.at {k : Bool} {h h' : Heap} {a : Addr} {xs : Array Value} (x : SeB k h a xs) (e : ∀ o, h.get? a = some o → h'.get? a = some o) : SeB k h' a xs := by
  cases k
  · obtain ⟨o, ho, r⟩ := x; exact ⟨o, e _ ho, r⟩
  · obtain ⟨o, ho, r⟩ := x; exact ⟨o, e _ ho, r⟩
theorem IrB.obj {k : Bool} {h : Heap} {it a : Addr} {i : Nat} (x : IrB k h it a i) : ∃ o, h.get? it = some o ∧ ∀ v, o.data ≠ .cell v := by
  cases k
  · obtain ⟨o, ho, _, d⟩ := x; exact ⟨o, ho, fun v q => by rw [d] at q; cases q⟩
  · obtain ⟨o, ho, _, d⟩ := x; exact ⟨o, ho, fun v q => by rw [d] at q; cases q⟩
section
variable {M : Model} {A : Around} {E : Value → Shared → Prop} {s : Shared}
end
end Cr

/-! CrLam: a lambda handed to a def that keeps what it raises (the reading of a raise may look at the receiver's own names). -/
namespace Cr
open PySem PySem.Spec PyProof.Rows L2 LamX
section
variable {X : Cx} {pins : List (Addr × Obj)} {σ : L2.St} {H : Hp} {s : Shared}
/-- all but P stays -/
def ExtP (P : Addr) (H H' : Hp) : Prop := ∀ b o, H b = some o → b ≠ P → H' b = some o
end
section
variable {X : Cx}
end
end Cr

/-! CrTi: a tuple made at run time that is known to have no dict of its own; its .index. -/
namespace Cr
open PySem PySem.Spec PyProof.Rows L2
section
variable {X : Cx}
end
end Cr

/-! AL0: plain values, how they lie in a heap, readings over plain values (no heap in sight). -/
namespace Al
open PySem L2 Cr
/-- plain values -/
inductive D where
  | non | bl (b : Bool) | int (i : Int) | str (x : Str)
  | lst (ds : List D) | tup (ds : List D) | scr (ns : List Int) | dic (kvs : List (Key × D))
  | ins (c : Nat) (ds : List D) | exc (c : Nat) (ds : List D) | raw (v : V)
  /-- a tuple that is known wholly (no dict of its own) -/
  | tupF (ds : List D)
/-- what a def's walk rests on: the written part, the classes' places, the slots that hold things of one's own (changed in place) -/
structure Tb where
  a : Nat → Addr
  nm : Nat → List Str
structure Cf where
  K : PySem.W.Frag
  cl : Tb
  O : List Nat
  np : Nat
  /-- tables of code objects: where they lie, the name of what they make -/
  T : List (Addr × Str) := []
/-- as a def called from elsewhere sees it -/
abbrev Cf.noT (cf : Cf) : Cf := { cf with T := [] }
theorem Cf.noT_eq {cf : Cf} (h : cf.T = []) : cf.noT = cf := by
  cases cf
  cases h
  rfl
mutual
inductive Rp (K : PySem.W.Frag) (cl : Tb) (G : Hp) : V → D → Prop
  | non : Rp K cl G .non .non
  | bl (b : Bool) : Rp K cl G (.bl b) (.bl b)
  | int (i : Int) : Rp K cl G (.int i) (.int i)
  | str (x : Str) : Rp K cl G (.str x) (.str x)
  | lst {a : Addr} {vs : List V} {ds : List D} : G a = some (.lst vs) → Rps K cl G vs ds → Rp K cl G (.ref a) (.lst ds)
  | scr {a : Addr} {ns : List Int} : SqL K G a (ns.map V.int) → Rp K cl G (.ref a) (.scr ns)
  | tup {a : Addr} {vs : List V} {ds : List D} : SqT K G a vs → Rps K cl G vs ds → Rp K cl G (.ref a) (.tup ds)
  | dic {a : Addr} {vs : List (Key × V)} {ds : List (Key × D)} : Rd G a (.dK vs) → Rks K cl G vs ds → Rp K cl G (.ref a) (.dic ds)
  | ins {a dx : Addr} {c : Nat} {ns : List Str} {vs : List V} {ds : List D} : G a = some (.ins (cl.a c) dx (ns.zip vs)) → ((cl.nm c).take ds.length = ns ∧ ds.length ≤ (cl.nm c).length) → Rps K cl G vs ds → Rp K cl G (.ref a) (.ins c ds)
  | exc {a : Addr} {c : Nat} {vs : List V} {ds : List D} : XkAt G a (cl.a c) ((cl.nm c).zip vs) → Rps K cl G vs ds → Rp K cl G (.ref a) (.exc c ds)
  | raw (v : V) : Rp K cl G v (.raw v)
  | tupF {a : Addr} {ob : Obj} {vs : List V} {ds : List D} : G a = some (.frz ob (.tup vs)) → ob.cls = .type "tuple" ∧ ob.dict = none → Rps K cl G vs ds → Rp K cl G (.ref a) (.tupF ds)
inductive Rps (K : PySem.W.Frag) (cl : Tb) (G : Hp) : List V → List D → Prop
  | nil : Rps K cl G [] []
  | cons {v : V} {d : D} {vs : List V} {ds : List D} : Rp K cl G v d → Rps K cl G vs ds → Rps K cl G (v :: vs) (d :: ds)
inductive Rks (K : PySem.W.Frag) (cl : Tb) (G : Hp) : List (Key × V) → List (Key × D) → Prop
  | nil : Rks K cl G [] []
  | cons {f : Key} {v : V} {d : D} {vs : List (Key × V)} {ds : List (Key × D)} : Rp K cl G v d → Rks K cl G vs ds → Rks K cl G ((f, v) :: vs) ((f, d) :: ds)
end
section
variable {K : PySem.W.Frag} {cl : Tb} {G G' H : Hp}
mutual
theorem Rp.up (s : Same G G') {v : V} {d : D} : Rp K cl G v d → Rp K cl G' v d
  | .non => .non
  | .bl b => .bl b
  | .int i => .int i
  | .str x => .str x
  | .lst h r => .lst (s _ _ h) (Rps.up s r)
  | .scr h => .scr (Cr.Same.sqL s h)
  | .tup h r => .tup (Cr.Same.sqT s h) (Rps.up s r)
  | .dic h r => .dic (Cr.Same.lst s h) (Rks.up s r)
  | .ins h e r => .ins (s _ _ h) e (Rps.up s r)
  | .exc h r => .exc (h.up s) (Rps.up s r)
  | .raw v => .raw v
  | .tupF h e r => .tupF (s _ _ h) e (Rps.up s r)
theorem Rps.up (s : Same G G') {v : List V} {d : List D} : Rps K cl G v d → Rps K cl G' v d
  | .nil => .nil
  | .cons h r => .cons (Rp.up s h) (Rps.up s r)
theorem Rks.up (s : Same G G') {v : List (Key × V)} {d : List (Key × D)} : Rks K cl G v d → Rks K cl G' v d
  | .nil => .nil
  | .cons h r => .cons (Rp.up s h) (Rks.up s r)
end
theorem sqL_up {a : Addr} {vs : List V} (s : Same G H) (h : G a = some (.lst vs)) : SqL K H a vs := ofL (s _ _ h)
theorem Rps.len {vs : List V} {ds : List D} : Rps K cl G vs ds → vs.length = ds.length
  | .nil => rfl
  | .cons _ r => by simp [Rps.len r]
theorem Rps.get {vs : List V} {ds : List D} {i : Nat} {v : V} : Rps K cl G vs ds → vs[i]? = some v → ∃ d, ds[i]? = some d ∧ Rp K cl G v d
  | .nil, h => by cases h
  | .cons (d := d) a r, h => by
    cases i with
    | zero => cases h; exact ⟨d, rfl, a⟩
    | succ i => simp only [List.getElem?_cons_succ] at h ⊢; exact Rps.get r h
theorem Rps.getD {vs : List V} {ds : List D} {i : Nat} {d : D} : Rps K cl G vs ds → ds[i]? = some d → ∃ v, vs[i]? = some v ∧ Rp K cl G v d
  | .nil, h => by cases h
  | .cons (v := v) a r, h => by
    cases i with
    | zero => cases h; exact ⟨v, rfl, a⟩
    | succ i => simp only [List.getElem?_cons_succ] at h ⊢; exact Rps.getD r h
theorem Rps.app {vs ws : List V} {ds es : List D} : Rps K cl G vs ds → Rps K cl G ws es → Rps K cl G (vs ++ ws) (ds ++ es)
  | .nil, h => h
  | .cons a r, h => .cons a (Rps.app r h)
theorem Rps.take {vs : List V} {ds : List D} (n : Nat) : Rps K cl G vs ds → Rps K cl G (vs.take n) (ds.take n)
  | .nil => by simp; exact .nil
  | .cons a r => by
    cases n with
    | zero => exact .nil
    | succ n => exact .cons a (Rps.take n r)
theorem Rps.drop {vs : List V} {ds : List D} (n : Nat) : Rps K cl G vs ds → Rps K cl G (vs.drop n) (ds.drop n)
  | .nil => by simp; exact .nil
  | .cons a r => by
    cases n with
    | zero => exact .cons a r
    | succ n => exact Rps.drop n r
theorem Rps.set {vs : List V} {ds : List D} {v : V} {d : D} (n : Nat) (hv : Rp K cl G v d) : Rps K cl G vs ds → Rps K cl G (vs.set n v) (ds.set n d)
  | .nil => .nil
  | .cons a r => by
    cases n with
    | zero => exact .cons hv r
    | succ n => exact .cons a (Rps.set n hv r)
theorem Rps.ints : ∀ ns : List Int, Rps K cl G (ns.map V.int) (ns.map D.int)
  | [] => .nil
  | n :: r => .cons (.int n) (Rps.ints r)
theorem zip_look {α : Type} : ∀ {ns : List Str} {vs : List α} {f : Str} {k : Nat} {v : α}, ns.Nodup → ns[k]? = some f → vs[k]? = some v → (ns.zip vs).lookup f = some v
  | [], _, f, k, v, _, h, _ => by cases h
  | _ :: _, [], f, k, v, _, _, h => by cases h
  | n :: ns, w :: vs, f, 0, v, _, h1, h2 => by
    cases h1; cases h2
    simp [List.zip, List.lookup]
  | n :: ns, w :: vs, f, k + 1, v, hn, h1, h2 => by
    simp only [List.getElem?_cons_succ] at h1 h2
    have hne : (f == n) = false := by
      rw [beq_eq_false_iff_ne]
      rintro rfl
      exact (List.nodup_cons.mp hn).1 (List.mem_of_getElem? h1)
    simp only [List.zip_cons_cons, List.lookup, hne]
    exact zip_look (List.nodup_cons.mp hn).2 h1 h2
end
/-! ### a thing of one's own, at a; what it holds stands in G -/
inductive RpO (K : PySem.W.Frag) (cl : Tb) (G H : Hp) (a : Addr) : D → Prop
  | lst {vs : List V} {ds : List D} : H a = some (.lst vs) → Rps K cl G vs ds → RpO K cl G H a (.lst ds)
  | dic {vs : List (Key × V)} {ds : List (Key × D)} : H a = some (.dK vs) → Rks K cl G vs ds → RpO K cl G H a (.dic ds)
  | ins {dx : Addr} {c : Nat} {ns : List Str} {vs : List V} {ds : List D} : H a = some (.ins (cl.a c) dx (ns.zip vs)) → ((cl.nm c).take ds.length = ns ∧ ds.length ≤ (cl.nm c).length) → Rps K cl G vs ds → RpO K cl G H a (.ins c ds)
theorem RpO.there {K : PySem.W.Frag} {cl : Tb} {G H : Hp} {a : Addr} {d : D} (h : RpO K cl G H a d) : ∃ o, H a = some o := by cases h <;> exact ⟨_, by assumption⟩
theorem RpO.up {K : PySem.W.Frag} {cl : Tb} {G G' H H' : Hp} {a : Addr} {d : D} (h : RpO K cl G H a d) (s : Same G G') (e : H' a = H a) : RpO K cl G' H' a d := by
  cases h with
  | lst h r => exact .lst (e.trans h) (r.up s)
  | dic h r => exact .dic (e.trans h) (r.up s)
  | ins h e' r => exact .ins (e.trans h) e' (r.up s)
/-! ### environments -/
abbrev Ev := List (Option D)
def sl : Ev → Nat → Option D
  | [], _ => none
  | d :: _, 0 => d
  | _ :: r, i + 1 => sl r i
theorem sl_get : ∀ (ρ : Ev) (i : Nat) (d : D), sl ρ i = some d ↔ ρ[i]? = some (some d)
  | [], i, d => by simp [sl]
  | e :: r, 0, d => by simp [sl]
  | e :: r, i + 1, d => by simp only [sl]; rw [sl_get r i d]; simp
theorem sl_set : ∀ (ρ : Ev) (i : Nat) (d : Option D), i < ρ.length → sl (ρ.set i d) i = d
  | [], i, d, h => by cases h
  | e :: r, 0, d, _ => rfl
  | e :: r, i + 1, d, h => by show sl (r.set i d) i = d; exact sl_set r i d (by simpa using h)
theorem sl_set_ne : ∀ (ρ : Ev) (i j : Nat) (d : Option D), j ≠ i → sl (ρ.set i d) j = sl ρ j
  | [], i, j, d, _ => rfl
  | e :: r, 0, 0, d, h => absurd rfl h
  | e :: r, 0, j + 1, d, _ => rfl
  | e :: r, i + 1, 0, d, _ => rfl
  | e :: r, i + 1, j + 1, d, h => by show sl (r.set i d) j = sl r j; exact sl_set_ne r i j d (by omega)
theorem sl_lt {ρ : Ev} {i : Nat} {d : D} (h : sl ρ i = some d) : i < ρ.length := by
  rw [sl_get] at h
  exact (List.getElem?_eq_some_iff.mp h).1
/-- what others hold; where the parameters that are changed in place lie -/
structure Fx where
  m : Hp
  π : Nat → Option Addr
def Fx.up (M : Fx) (p : Addr) (o : HO) : Fx := { M with m := upd M.m p o }
theorem Fx.up_same {M : Fx} {p : Addr} {o : HO} : (M.up p o).m p = some o := upd_same
theorem Fx.up_ne {M : Fx} {p b : Addr} {o : HO} (h : b ≠ p) : (M.up p o).m b = M.m b := upd_ne h
/-- neither a table of code objects nor one of these -/
def MutO (o : HO) : Prop := (∀ ps, o ≠ .tbl ps) ∧ ∀ c q, o ≠ LamX.CodeO c q
/-- the tables stand beside all else -/
def TabOk (T : List (Addr × Str)) (M : Fx) (G H : Hp) : Prop := T ≠ [] → LamX.Tabs T H ∧ (∀ p ∈ T, M.m p.1 = none ∧ G p.1 = none) ∧ ∀ b o, M.m b = some o → MutO o
theorem tabs_keep {T : List (Addr × Str)} {H H' : Hp} (t : LamX.Tabs T H) (k : ∀ b o, H b = some o → ¬ MutO o → H' b = some o) : LamX.Tabs T H' := fun p hp => by
  obtain ⟨ps, h1, h2, h3⟩ := t p hp
  refine ⟨ps, k _ _ h1 fun z => z.1 _ rfl, h2, fun pos cv hc => ?_⟩
  obtain ⟨c, e1, e2⟩ := h3 pos cv hc
  exact ⟨c, e1, k _ _ e2 fun z => z.2 _ _ rfl⟩
theorem TabOk.next {T : List (Addr × Str)} {M : Fx} {G G' H H' : Hp} (t : TabOk T M G H) (k : ∀ b o, H b = some o → ¬ MutO o → H' b = some o) (g : ∀ b ps, H b = some (.tbl ps) → G b = none → G' b = none) : TabOk T M G' H' := fun n => by
  obtain ⟨t1, t2, t3⟩ := t n
  refine ⟨tabs_keep t1 k, fun p hp => ⟨(t2 p hp).1, ?_⟩, t3⟩
  obtain ⟨ps, h1, _⟩ := t1 p hp
  exact g _ _ h1 (t2 p hp).2
theorem TabOk.new {T : List (Addr × Str)} {M : Fx} {G G' H : Hp} {p : Addr} {o : HO} (t : TabOk T M G H) (np : H p = none) (g : ∀ b, b ≠ p → G b = none → G' b = none) : TabOk T M G' (upd H p o) :=
  t.next (fun b u e _ => by rw [upd_ne (ne_of_none e np)]; exact e) fun b ps e n => g b (ne_of_none e np) n
theorem TabOk.put {T : List (Addr × Str)} {M : Fx} {G G' H : Hp} {p : Addr} {o u : HO} (t : TabOk T M G H) (hp : H p = some o) (ho : MutO o) (g : ∀ b, b ≠ p → G b = none → G' b = none) : TabOk T M G' (upd H p u) :=
  t.next (fun b u e n => by
    have : b ≠ p := fun c => by rw [c, hp] at e; cases e; exact n ho
    rw [upd_ne this]; exact e) fun b ps e n => g b (fun c => by rw [c, hp] at e; cases e; exact ho.1 _ rfl) n
theorem TabOk.frz {T : List (Addr × Str)} {M : Fx} {G G' H : Hp} {p : Addr} {o : HO} (t : TabOk T M G H) (hp : H p = some o) (ho : MutO o) (g : ∀ b, b ≠ p → G b = none → G' b = none) : TabOk T M G' H :=
  t.next (fun b u e n => e) fun b ps e n => g b (fun c => by rw [c, hp] at e; cases e; exact ho.1 _ rfl) n
theorem TabOk.after {T : List (Addr × Str)} {M : Fx} {G G' H H' : Hp} (t : TabOk T M G H) (k : ∀ b o, H b = some o → ¬ MutO o → H' b = some o ∧ (G b = none → G' b = none)) : TabOk T M G' H' :=
  t.next (fun b o e n => (k b o e n).1) fun b ps e n => (k b _ e fun z => z.1 _ rfl).2 n
theorem TabOk.unpin {T : List (Addr × Str)} {M : Fx} {G H : Hp} {p : Addr} {o : HO} (t : TabOk T (M.up p o) G H) (np : M.m p = none) : TabOk T M G H := fun n => by
  obtain ⟨t1, t2, t3⟩ := t n
  refine ⟨t1, fun q hq => ⟨?_, (t2 q hq).2⟩, fun b u e => t3 b u ?_⟩
  · have nq : q.1 ≠ p := fun c => by
      have := (t2 q hq).1
      rw [c, Fx.up_same] at this
      cases this
    have := (t2 q hq).1
    rw [Fx.up_ne nq] at this
    exact this
  · rw [Fx.up_ne (fun c => by rw [c, np] at e; cases e)]
    exact e
theorem TabOk.pin {T : List (Addr × Str)} {M : Fx} {G H : Hp} {p : Addr} {o : HO} (t : TabOk T M G H) (hp : H p = some o) (ho : MutO o) : TabOk T (M.up p o) G H := fun n => by
  obtain ⟨t1, t2, t3⟩ := t n
  refine ⟨t1, fun q hq => ⟨?_, (t2 q hq).2⟩, fun b u e => ?_⟩
  · obtain ⟨ps, h1, _⟩ := t1 q hq
    rw [Fx.up_ne (fun c => by rw [c, hp] at h1; cases h1; exact ho.1 _ rfl)]
    exact (t2 q hq).1
  · by_cases hb : b = p
    · subst hb
      rw [Fx.up_same] at e
      cases e
      exact ho
    · rw [Fx.up_ne hb] at e
      exact t3 b u e
theorem TabOk.same {T : List (Addr × Str)} {M : Fx} {G H H' : Hp} (t : TabOk T M G H) (k : ∀ b o, H b = some o → H' b = some o) : TabOk T M G H' := t.next (fun b o e _ => k b o e) fun _ _ _ n => n
theorem TabOk.nil' {T : List (Addr × Str)} {M : Fx} {G H : Hp} (h : T = []) : TabOk T M G H := fun n => absurd h n
theorem TabOk.nil {M : Fx} {G H : Hp} : TabOk [] M G H := fun n => absurd rfl n
theorem mut_lst {xs : List V} : MutO (.lst xs) := ⟨fun _ h => (by cases h), fun _ _ h => (by cases h)⟩
theorem mut_dK {xs : List (Key × V)} : MutO (.dK xs) := ⟨fun _ h => (by cases h), fun _ _ h => (by cases h)⟩
theorem mut_ins {C dx : Addr} {fs : List (Str × V)} : MutO (.ins C dx fs) := ⟨fun _ h => (by cases h), fun _ _ h => (by cases h)⟩
theorem RpO.mut {K : PySem.W.Frag} {cl : Tb} {G H : Hp} {a : Addr} {d : D} (h : RpO K cl G H a d) : ∃ o, H a = some o ∧ MutO o := by
  cases h with
  | lst h _ => exact ⟨_, h, mut_lst⟩
  | dic h _ => exact ⟨_, h, mut_dK⟩
  | ins h _ _ => exact ⟨_, h, mut_ins⟩
theorem mut_own {K : PySem.W.Frag} {cl : Tb} {G H : Hp} {a : Addr} {d : D} {o : HO} (h : RpO K cl G H a d) (e : H a = some o) : MutO o := by
  obtain ⟨u, hu, mu⟩ := h.mut
  rw [e] at hu
  cases hu
  exact mu
/-- ρ in the heap H: G what never changes -/
structure Rs (cf : Cf) (M : Fx) (G H : Hp) (σ : St) (ρ : Ev) : Prop where
  same : Same G H
  mem : ∀ b o, M.m b = some o → H b = some o ∧ G b = none
  len : σ.length = ρ.length
  imm : ∀ i d, i ∉ cf.O → sl ρ i = some d → ∃ v, σ[i]? = some (some v) ∧ Rp cf.K cf.cl G v d
  own : ∀ i d, i ∈ cf.O → sl ρ i = some d → ∃ a, σ[i]? = some (some (.ref a)) ∧ G a = none ∧ M.m a = none ∧ RpO cf.K cf.cl G H a d
  dis : ∀ i j d e a, i ∈ cf.O → j ∈ cf.O → sl ρ i = some d → sl ρ j = some e → σ[i]? = some (some (.ref a)) → σ[j]? = some (some (.ref a)) → i = j
  par : ∀ i a, M.π i = some a → i ∈ cf.O ∧ i < cf.np ∧ σ[i]? = some (some (.ref a))
  tab : TabOk cf.T M G H
/-- a new thing that never changes -/
theorem Rs.new {cf : Cf} {M : Fx} {G H : Hp} {σ : St} {ρ : Ev} {p : Addr} {o : HO} (R : Rs cf M G H σ ρ) (np : H p = none) : Rs cf M (upd G p o) (upd H p o) σ ρ ∧ Same G (upd G p o) ∧ (upd G p o) p = some o := by
  have gp := R.same.free np
  have sG : Same G (upd G p o) := same_up gp
  refine ⟨⟨Same.two R.same, fun b u e => ?_, R.len, fun i d hi e => ?_, fun i d hi e => ?_, R.dis, R.par, R.tab.new np fun b nb n => by rw [upd_ne nb]; exact n⟩, sG, upd_same⟩
  · obtain ⟨h1, h2⟩ := R.mem b u e
    have nb : b ≠ p := ne_of_none h1 np
    exact ⟨by rw [upd_ne nb]; exact h1, by rw [upd_ne nb]; exact h2⟩
  · obtain ⟨v, h1, h2⟩ := R.imm i d hi e
    exact ⟨v, h1, h2.up sG⟩
  · obtain ⟨a, h1, h2, h3, h4⟩ := R.own i d hi e
    obtain ⟨u, hu⟩ := h4.there
    have na : a ≠ p := ne_of_none hu np
    exact ⟨a, h1, by rw [upd_ne na]; exact h2, h3, h4.up sG (upd_ne na)⟩
/-- a new thing that others hold -/
theorem Rs.pin {cf : Cf} {M : Fx} {G H : Hp} {σ : St} {ρ : Ev} {p : Addr} {o : HO} (R : Rs cf M G H σ ρ) (np : H p = none) (ho : MutO o := by first | exact mut_lst | exact mut_dK | exact mut_ins | exact ⟨fun _ h => (by cases h), fun _ _ h => (by cases h)⟩) : Rs cf (M.up p o) G (upd H p o) σ ρ := by
  refine ⟨Same.new R.same np, fun b u e => ?_, R.len, R.imm, fun i d hi e => ?_, R.dis, R.par, fun n => ?_⟩
  rotate_right
  · obtain ⟨t1, t2, t3⟩ := (R.tab.new (o := o) np fun b _ n => n) n
    refine ⟨t1, fun q hq => ⟨?_, (t2 q hq).2⟩, fun b u e => ?_⟩
    · have : q.1 ≠ p := fun c => by
        obtain ⟨ps, h1, _⟩ := (R.tab n).1 q hq
        rw [c, np] at h1
        cases h1
      rw [Fx.up_ne this]; exact (t2 q hq).1
    · by_cases hb : b = p
      · subst hb
        rw [Fx.up_same] at e
        cases e
        exact ho
      · rw [Fx.up_ne hb] at e
        exact t3 b u e
  · by_cases hb : b = p
    · subst hb
      rw [Fx.up_same] at e
      rw [upd_same]
      exact ⟨e, R.same.free np⟩
    · rw [Fx.up_ne hb] at e
      rw [upd_ne hb]
      exact R.mem b u e
  · obtain ⟨a, h1, h2, h3, h4⟩ := R.own i d hi e
    obtain ⟨u, hu⟩ := h4.there
    have na : a ≠ p := ne_of_none hu np
    exact ⟨a, h1, h2, by rw [Fx.up_ne na]; exact h3, h4.up (Same.refl _) (upd_ne na)⟩
/-- what others hold is changed -/
theorem Rs.repin {cf : Cf} {M : Fx} {G H : Hp} {σ : St} {ρ : Ev} {p : Addr} {o u : HO} (R : Rs cf (M.up p o) G H σ ρ) (hu : MutO u := by first | exact mut_lst | exact mut_dK | exact mut_ins | exact ⟨fun _ h => (by cases h), fun _ _ h => (by cases h)⟩) : Rs cf (M.up p u) G (upd H p u) σ ρ := by
  have gp : G p = none := (R.mem p o Fx.up_same).2
  refine ⟨Same.put R.same gp, fun b w e => ?_, R.len, R.imm, fun i d hi e => ?_, R.dis, R.par, fun n => ?_⟩
  rotate_right
  · obtain ⟨t1, t2, t3⟩ := R.tab n
    have np : ∀ q ∈ cf.T, q.1 ≠ p := fun q hq c => by
      have := (t2 q hq).1
      rw [c, Fx.up_same] at this
      cases this
    refine ⟨tabs_keep t1 fun b w e m => ?_, fun q hq => ⟨?_, (t2 q hq).2⟩, fun b w e => ?_⟩
    · have nb : b ≠ p := fun c => by
        rw [c, (R.mem p o Fx.up_same).1] at e
        cases e
        exact m (t3 p o Fx.up_same)
      rw [upd_ne nb]; exact e
    · have := (t2 q hq).1
      rw [Fx.up_ne (np q hq)] at this ⊢
      exact this
    · by_cases hb : b = p
      · subst hb
        rw [Fx.up_same] at e
        cases e
        exact hu
      · rw [Fx.up_ne hb] at e
        exact t3 b w (by rw [Fx.up_ne hb]; exact e)
  · by_cases hb : b = p
    · subst hb
      rw [Fx.up_same] at e
      rw [upd_same]
      exact ⟨e, gp⟩
    · rw [Fx.up_ne hb] at e
      rw [upd_ne hb]
      exact R.mem b w (by rw [Fx.up_ne hb]; exact e)
  · obtain ⟨a, h1, h2, h3, h4⟩ := R.own i d hi e
    have na : a ≠ p := fun z => by rw [z, Fx.up_same] at h3; cases h3
    rw [Fx.up_ne na] at h3
    exact ⟨a, h1, h2, by rw [Fx.up_ne na]; exact h3, h4.up (Same.refl _) (upd_ne na)⟩
/-- what others held never changes from here on -/
theorem Rs.thaw {cf : Cf} {M : Fx} {G H : Hp} {σ : St} {ρ : Ev} {p : Addr} {o : HO} (R : Rs cf (M.up p o) G H σ ρ) (np : M.m p = none) : Rs cf M (upd G p o) H σ ρ ∧ Same G (upd G p o) ∧ (upd G p o) p = some o := by
  obtain ⟨hp, gp⟩ := R.mem p o Fx.up_same
  have sG : Same G (upd G p o) := same_up gp
  refine ⟨⟨Same.add R.same hp, fun b w e => ?_, R.len, fun i d hi e => ?_, fun i d hi e => ?_, R.dis, R.par, fun n => ?_⟩, sG, upd_same⟩
  rotate_right
  · obtain ⟨t1, t2, t3⟩ := R.tab n
    refine ⟨t1, fun q hq => ?_, fun b w e => ?_⟩
    · have nq : q.1 ≠ p := fun c => by
        have := (t2 q hq).1
        rw [c, Fx.up_same] at this
        cases this
      have := (t2 q hq).1
      rw [Fx.up_ne nq] at this
      exact ⟨this, by rw [upd_ne nq]; exact (t2 q hq).2⟩
    · have nb : b ≠ p := fun z => by rw [z, np] at e; cases e
      exact t3 b w (by rw [Fx.up_ne nb]; exact e)
  · have nb : b ≠ p := fun z => by rw [z, np] at e; cases e
    obtain ⟨h1, h2⟩ := R.mem b w (by rw [Fx.up_ne nb]; exact e)
    exact ⟨h1, by rw [upd_ne nb]; exact h2⟩
  · obtain ⟨v, h1, h2⟩ := R.imm i d hi e
    exact ⟨v, h1, h2.up sG⟩
  · obtain ⟨a, h1, h2, h3, h4⟩ := R.own i d hi e
    have na : a ≠ p := fun z => by rw [z, Fx.up_same] at h3; cases h3
    rw [Fx.up_ne na] at h3
    exact ⟨a, h1, by rw [upd_ne na]; exact h2, h3, h4.up sG rfl⟩
/-- a slot that holds what never changes is stored -/
theorem Rs.set {cf : Cf} {M : Fx} {G H : Hp} {σ : St} {ρ : Ev} {i : Nat} {v : V} {d : D} (R : Rs cf M G H σ ρ) (hi : i ∉ cf.O) (h : Rp cf.K cf.cl G v d) : Rs cf M G H (σ.set i (some v)) (ρ.set i (some d)) := by
  refine ⟨R.same, R.mem, by simp [R.len], fun j e hj z => ?_, fun j e hj z => ?_, fun j k e f a hj hk z1 z2 => ?_, fun j a e => ?_, R.tab⟩
  rotate_right
  · obtain ⟨h1, h2, h3⟩ := R.par j a e
    exact ⟨h1, h2, by rw [List.getElem?_set_ne (fun c => hi (by rw [c]; exact h1))]; exact h3⟩
  · by_cases c : j = i
    · subst c
      have hl := sl_lt z
      rw [List.length_set] at hl
      rw [sl_set ρ j _ hl] at z
      cases z
      exact ⟨v, by rw [List.getElem?_set_self (by rw [R.len]; exact hl)], h⟩
    · rw [sl_set_ne ρ i j _ c] at z
      rw [List.getElem?_set_ne (Ne.symm c)]
      exact R.imm j e hj z
  · have c : j ≠ i := fun c => hi (c ▸ hj)
    rw [sl_set_ne ρ i j _ c] at z
    rw [List.getElem?_set_ne (Ne.symm c)]
    exact R.own j e hj z
  · have c : j ≠ i := fun c => hi (c ▸ hj)
    have c' : k ≠ i := fun c => hi (c ▸ hk)
    rw [sl_set_ne ρ i j _ c] at z1
    rw [sl_set_ne ρ i k _ c'] at z2
    rw [List.getElem?_set_ne (Ne.symm c), List.getElem?_set_ne (Ne.symm c')]
    exact R.dis j k e f a hj hk z1 z2
/-- a slot of one's own holds something new -/
theorem Rs.setO {cf : Cf} {M : Fx} {G H : Hp} {σ : St} {ρ : Ev} {i : Nat} {p : Addr} {o : HO} {d : D} (R : Rs cf (M.up p o) G H σ ρ) (np : M.m p = none) (hi : i ∈ cf.O) (hn : cf.np ≤ i) (h : RpO cf.K cf.cl G H p d) : Rs cf M G H (σ.set i (some (.ref p))) (ρ.set i (some d)) := by
  obtain ⟨hp, gp⟩ := R.mem p o Fx.up_same
  have ot : ∀ j e, j ∈ cf.O → sl ρ j = some e → ∃ a, σ[j]? = some (some (.ref a)) ∧ G a = none ∧ M.m a = none ∧ a ≠ p ∧ RpO cf.K cf.cl G H a e := fun j e hj z => by
    obtain ⟨a, h1, h2, h3, h4⟩ := R.own j e hj z
    have na : a ≠ p := fun z => by rw [z, Fx.up_same] at h3; cases h3
    rw [Fx.up_ne na] at h3
    exact ⟨a, h1, h2, h3, na, h4⟩
  refine ⟨R.same, fun b w e => ?_, by simp [R.len], fun j e hj z => ?_, fun j e hj z => ?_, fun j k e f a hj hk z1 z2 => ?_, fun j a e => ?_, fun n => ?_⟩
  rotate_right
  · obtain ⟨t1, t2, t3⟩ := R.tab n
    refine ⟨t1, fun q hq => ?_, fun b w e => ?_⟩
    · have nq : q.1 ≠ p := fun c => by
        have := (t2 q hq).1
        rw [c, Fx.up_same] at this
        cases this
      have := (t2 q hq).1
      rw [Fx.up_ne nq] at this
      exact ⟨this, (t2 q hq).2⟩
    · have nb : b ≠ p := fun z => by rw [z, np] at e; cases e
      exact t3 b w (by rw [Fx.up_ne nb]; exact e)
  rotate_right
  · obtain ⟨h1, h2, h3⟩ := R.par j a e
    exact ⟨h1, h2, by rw [List.getElem?_set_ne (by omega)]; exact h3⟩
  · have nb : b ≠ p := fun z => by rw [z, np] at e; cases e
    exact R.mem b w (by rw [Fx.up_ne nb]; exact e)
  · have c : j ≠ i := fun c => hj (c ▸ hi)
    rw [sl_set_ne ρ i j _ c] at z
    rw [List.getElem?_set_ne (Ne.symm c)]
    exact R.imm j e hj z
  · by_cases c : j = i
    · subst c
      have hl := sl_lt z
      rw [List.length_set] at hl
      rw [sl_set ρ j _ hl] at z
      cases z
      exact ⟨p, by rw [List.getElem?_set_self (by rw [R.len]; exact hl)], gp, np, h⟩
    · rw [sl_set_ne ρ i j _ c] at z
      rw [List.getElem?_set_ne (Ne.symm c)]
      obtain ⟨a, h1, h2, h3, _, h4⟩ := ot j e hj z
      exact ⟨a, h1, h2, h3, h4⟩
  · intro q1 q2
    by_cases c : j = i
    · by_cases c' : k = i
      · rw [c, c']
      · subst c
        have hl := sl_lt z1
        rw [List.length_set] at hl
        rw [List.getElem?_set_self (by rw [R.len]; exact hl)] at q1
        rw [List.getElem?_set_ne (Ne.symm c')] at q2
        rw [sl_set_ne ρ j k _ c'] at z2
        obtain ⟨a', h1, _, _, h4, _⟩ := ot k f hk z2
        rw [q2] at h1
        cases q1; cases h1
        exact absurd rfl h4
    · rw [List.getElem?_set_ne (Ne.symm c)] at q1
      rw [sl_set_ne ρ i j _ c] at z1
      by_cases c' : k = i
      · subst c'
        have hl := sl_lt z2
        rw [List.length_set] at hl
        rw [List.getElem?_set_self (by rw [R.len]; exact hl)] at q2
        obtain ⟨a', h1, _, _, h4, _⟩ := ot j e hj z1
        rw [q1] at h1
        cases q2; cases h1
        exact absurd rfl h4
      · rw [List.getElem?_set_ne (Ne.symm c')] at q2
        rw [sl_set_ne ρ i k _ c'] at z2
        exact R.dis j k e f a hj hk z1 z2 q1 q2
/-- a thing of one's own is changed in place -/
theorem Rs.chg {cf : Cf} {M : Fx} {G H : Hp} {σ : St} {ρ : Ev} {i : Nat} {a : Addr} {o : HO} {d e : D} (R : Rs cf M G H σ ρ) (hi : i ∈ cf.O) (hs : sl ρ i = some e) (ha : σ[i]? = some (some (.ref a))) (h : RpO cf.K cf.cl G (upd H a o) a d) : Rs cf M G (upd H a o) σ (ρ.set i (some d)) := by
  obtain ⟨a', h1, h2, h3, h4⟩ := R.own i e hi hs
  rw [ha] at h1
  cases h1
  refine ⟨Same.put R.same h2, fun b w z => ?_, by simp [R.len], fun j e' hj z => ?_, fun j e' hj z => ?_, fun j k e1 f1 b hj hk z1 z2 q1 q2 => ?_, R.par, (by obtain ⟨u, hu, mu⟩ := h4.mut; exact R.tab.put hu mu fun _ _ n => n)⟩
  · have nb : b ≠ a := fun c => by rw [c, h3] at z; cases z
    obtain ⟨p1, p2⟩ := R.mem b w z
    exact ⟨by rw [upd_ne nb]; exact p1, p2⟩
  · have c : j ≠ i := fun c => hj (c ▸ hi)
    rw [sl_set_ne ρ i j _ c] at z
    exact R.imm j e' hj z
  · by_cases c : j = i
    · subst c
      rw [sl_set ρ j _ (sl_lt hs)] at z
      cases z
      exact ⟨a, ha, h2, h3, h⟩
    · rw [sl_set_ne ρ i j _ c] at z
      obtain ⟨b, q1, q2, q3, q4⟩ := R.own j e' hj z
      have nb : b ≠ a := fun c' => c (R.dis j i e' e a hj hi z hs (c' ▸ q1) ha)
      exact ⟨b, q1, q2, q3, q4.up (Same.refl _) (upd_ne nb)⟩
  · by_cases c : j = i
    · by_cases c' : k = i
      · rw [c, c']
      · subst c
        rw [sl_set_ne ρ j k _ c'] at z2
        exact R.dis j k e f1 b hj hk hs z2 q1 q2
    · rw [sl_set_ne ρ i j _ c] at z1
      by_cases c' : k = i
      · subst c'
        exact R.dis j k e1 e b hj hk z1 hs q1 q2
      · rw [sl_set_ne ρ i k _ c'] at z2
        exact R.dis j k e1 f1 b hj hk z1 z2 q1 q2
/-- less is known of the slots -/
theorem Rs.less {cf : Cf} {M : Fx} {G H : Hp} {σ : St} {ρ ρ' : Ev} (R : Rs cf M G H σ ρ) (hl : ρ'.length = ρ.length) (h : ∀ i d, sl ρ' i = some d → sl ρ i = some d) : Rs cf M G H σ ρ' :=
  ⟨R.same, R.mem, R.len.trans hl.symm, fun i d hi e => R.imm i d hi (h i d e), fun i d hi e => R.own i d hi (h i d e), fun i j d e a hi hj z1 z2 => R.dis i j d e a hi hj (h _ _ z1) (h _ _ z2), R.par, R.tab⟩
/-- a thing of one's own never changes from here on -/
theorem Rs.frz {cf : Cf} {M : Fx} {G H : Hp} {σ : St} {ρ : Ev} {i : Nat} {d : D} (R : Rs cf M G H σ ρ) (hi : i ∈ cf.O) (hs : sl ρ i = some d) : ∃ a G', σ[i]? = some (some (.ref a)) ∧ Same G G' ∧ Rs cf M G' H σ (ρ.set i none) ∧ Rp cf.K cf.cl G' (.ref a) d := by
  obtain ⟨a, h1, h2, h3, h4⟩ := R.own i d hi hs
  obtain ⟨o, ho⟩ := h4.there
  have sG : Same G (upd G a o) := same_up h2
  have ga : (upd G a o) a = some o := upd_same
  have R' : Rs cf M (upd G a o) H σ (ρ.set i none) := by
    refine ⟨Same.add R.same ho, fun b w z => ?_, by simp [R.len], fun j e' hj z => ?_, fun j e' hj z => ?_, fun j k e1 f1 b hj hk z1 z2 q1 q2 => ?_, R.par, (by obtain ⟨u, hu, mu⟩ := h4.mut; exact R.tab.frz hu mu fun b nb n => by rw [upd_ne nb]; exact n)⟩
    · have nb : b ≠ a := fun c => by rw [c, h3] at z; cases z
      obtain ⟨p1, p2⟩ := R.mem b w z
      exact ⟨p1, by rw [upd_ne nb]; exact p2⟩
    · have c : j ≠ i := fun c => hj (c ▸ hi)
      rw [sl_set_ne ρ i j _ c] at z
      obtain ⟨v, q1, q2⟩ := R.imm j e' hj z
      exact ⟨v, q1, q2.up sG⟩
    · have c : j ≠ i := fun c => by rw [c, sl_set ρ i _ (sl_lt hs)] at z; cases z
      rw [sl_set_ne ρ i j _ c] at z
      obtain ⟨b, q1, q2, q3, q4⟩ := R.own j e' hj z
      have nb : b ≠ a := fun c' => c (R.dis j i e' d a hj hi z hs (c' ▸ q1) h1)
      exact ⟨b, q1, by rw [upd_ne nb]; exact q2, q3, q4.up sG rfl⟩
    · have c : j ≠ i := fun c => by rw [c, sl_set ρ i _ (sl_lt hs)] at z1; cases z1
      have c' : k ≠ i := fun c => by rw [c, sl_set ρ i _ (sl_lt hs)] at z2; cases z2
      rw [sl_set_ne ρ i j _ c] at z1
      rw [sl_set_ne ρ i k _ c'] at z2
      exact R.dis j k e1 f1 b hj hk z1 z2 q1 q2
  refine ⟨a, _, h1, sG, R', ?_⟩
  cases h4 with
  | lst h r =>
    rw [h] at ho; cases ho
    exact .lst ga (r.up sG)
  | dic h r =>
    rw [h] at ho; cases ho
    exact .dic (.inl ga) (r.up sG)
  | ins h e' r =>
    rw [h] at ho; cases ho
    exact .ins ga e' (r.up sG)
def dropO (O : List Nat) : Nat → Ev → Ev
  | _, [] => []
  | i, d :: r => (if i ∈ O then none else d) :: dropO O (i + 1) r
theorem dropO_len (O : List Nat) : ∀ (k : Nat) (ρ : Ev), (dropO O k ρ).length = ρ.length
  | _, [] => rfl
  | k, d :: r => by simp [dropO, dropO_len O (k + 1) r]
theorem dropO_sl (O : List Nat) : ∀ (k : Nat) (ρ : Ev) (i : Nat) (d : D), sl (dropO O k ρ) i = some d → sl ρ i = some d ∧ k + i ∉ O
  | _, [], i, d, h => by cases h
  | k, e :: r, 0, d, h => by
    simp only [dropO, sl] at h ⊢
    split at h
    · cases h
    · next c => exact ⟨h, c⟩
  | k, e :: r, i + 1, d, h => by
    have := dropO_sl O (k + 1) r i d h
    exact ⟨this.1, by rw [show k + (i + 1) = k + 1 + i by omega]; exact this.2⟩
theorem Rs.dropO {cf : Cf} {M : Fx} {G H : Hp} {σ : St} {ρ : Ev} (R : Rs cf M G H σ ρ) : Rs cf M G H σ (dropO cf.O 0 ρ) := R.less (dropO_len _ _ _) fun i d h => (dropO_sl _ _ _ _ _ h).1
end Al

/-! AL1: readings over plain values: judgements, expressions, statements. -/
namespace Al
open PySem L2 Cr
abbrev XP := D → Prop
abbrev AE := Ev → (D → Ev → Prop) → XP → Prop
abbrev AT := Ev → (Bool → Ev → Prop) → XP → Prop
/-- an argument: a value, or a slot of one's own -/
abbrev Ar := D ⊕ Nat
abbrev AA := Ev → (List Ar → Ev → Prop) → XP → Prop
structure AK where
  nx : Ev → Prop
  rt : D → Ev → Prop
  bk : Ev → Prop
  ct : Ev → Prop
  ex : XP
abbrev AS := AK → Ev → Prop
abbrev AG := D → Ev → (Ev → Prop) → Prop
/-- an exception in the air -/
def XR (K : PySem.W.Frag) (cl : Tb) (G : Hp) (cls : Value) (dx : Option Addr) (x : D) : Prop := ∃ (c : Nat) (d : Addr) (vs : List V) (ds : List D), x = .exc c ds ∧ cls = .ref (cl.a c) ∧ dx = some d ∧ G d = some (.xd ((cl.nm c).zip vs)) ∧ Rps K cl G vs ds
/-- what stays when an exception goes through -/
def Kp (cf : Cf) (M : Fx) (G H : Hp) : Prop := (∀ b o, M.m b = some o → H b = some o ∧ G b = none) ∧ TabOk cf.T M G H
def XW (cf : Cf) (W : WX) (M : Fx) (G : Hp) (σ : St) (X : XP) : Prop := ∀ x cls dx G' H', Same G G' → Same G' H' → Kp cf M G' H' → XR cf.K cf.cl G' cls dx x → X x → W cls dx σ H'
theorem XW.up {cf : Cf} {W : WX} {M : Fx} {G G' : Hp} {σ : St} {X : XP} (h : XW cf W M G σ X) (s : Same G G') : XW cf W M G' σ X := fun x cls dx G2 H2 s1 => h x cls dx G2 H2 (s.trans s1)
section
variable (cf : Cf) (W : WX)
/-- what is wished of a value -/
def QE (M : Fx) (G : Hp) (σ : St) (P : D → Ev → Prop) (Q : VK) : Prop := ∀ d ρ' v G' H', Same G G' → Rs cf M G' H' σ ρ' → Rp cf.K cf.cl G' v d → P d ρ' → Q v H'
def γE (a : AE) : TE := fun σ H Q => ∃ (M : Fx) (G : Hp) (ρ : Ev) (P : D → Ev → Prop) (X : XP), Rs cf M G H σ ρ ∧ QE cf M G σ P Q ∧ XW cf W M G σ X ∧ a ρ P X
def γT (a : AT) : TT := fun σ H Q => ∃ (M : Fx) (G : Hp) (ρ : Ev) (P : Bool → Ev → Prop) (X : XP), Rs cf M G H σ ρ ∧ (∀ b ρ' G' H', Same G G' → Rs cf M G' H' σ ρ' → P b ρ' → Q b H') ∧ XW cf W M G σ X ∧ a ρ P X
inductive RpA (G : Hp) (σ : St) : List V → List Ar → Prop
  | nil : RpA G σ [] []
  | val {v : V} {d : D} {vs : List V} {xs : List Ar} : Rp cf.K cf.cl G v d → RpA G σ vs xs → RpA G σ (v :: vs) (.inl d :: xs)
  | own {v : V} {i : Nat} {vs : List V} {xs : List Ar} : σ[i]? = some (some v) → RpA G σ vs xs → RpA G σ (v :: vs) (.inr i :: xs)
def γA (a : AA) : TA := fun σ H Q => ∃ (M : Fx) (G : Hp) (ρ : Ev) (P : List Ar → Ev → Prop) (X : XP), Rs cf M G H σ ρ ∧ (∀ xs ρ' vs G' H', Same G G' → Rs cf M G' H' σ ρ' → RpA cf G' σ vs xs → P xs ρ' → Q vs H') ∧ XW cf W M G σ X ∧ a ρ P X
/-- what is wished behind a statement -/
structure QS (M : Fx) (G : Hp) (A : AK) (Dn : Ends) : Prop where
  nx : ∀ σ ρ G' H', Same G G' → Rs cf M G' H' σ ρ → A.nx ρ → Dn.nx σ H'
  rt : ∀ σ ρ G' H' v d, Same G G' → Rs cf M G' H' σ ρ → Rp cf.K cf.cl G' v d → A.rt d ρ → Dn.rt v H'
  bk : ∀ σ ρ G' H', Same G G' → Rs cf M G' H' σ ρ → A.bk ρ → Dn.bk σ H'
  ct : ∀ σ ρ G' H', Same G G' → Rs cf M G' H' σ ρ → A.ct ρ → Dn.ct σ H'
  ex : ∀ σ, XW cf W M G σ A.ex
def γS (a : AS) : TS := fun Dn σ H => ∃ (M : Fx) (G : Hp) (ρ : Ev) (A : AK), Rs cf M G H σ ρ ∧ QS cf W M G A Dn ∧ a A ρ
def γG (g : AG) : TG := fun x σ H k => ∃ (M : Fx) (G : Hp) (ρ : Ev) (d : D) (P : Ev → Prop), Rs cf M G H σ ρ ∧ Rp cf.K cf.cl G x d ∧ (∀ σ' ρ' G' H', Same G G' → Rs cf M G' H' σ' ρ' → P ρ' → k σ' H') ∧ g d ρ P
end
theorem RpA.up {cf : Cf} {G G' : Hp} {σ : St} {vs : List V} {xs : List Ar} (s : Same G G') (h : RpA cf G σ vs xs) : RpA cf G' σ vs xs := by
  induction h with
  | nil => exact .nil
  | val a _ ih => exact .val (a.up s) ih
  | own a _ ih => exact .own a ih
section
variable {X : Cx} {cf : Cf} {W : WX}
theorem QE.up {M : Fx} {G G' : Hp} {σ : St} {P : D → Ev → Prop} {Q : VK} (h : QE cf M G σ P Q) (s : Same G G') : QE cf M G' σ P Q := fun d ρ v G2 H2 s1 => h d ρ v G2 H2 (s.trans s1)
theorem QS.up {M : Fx} {G G' : Hp} {A : AK} {Dn : Ends} (h : QS cf W M G A Dn) (s : Same G G') : QS cf W M G' A Dn :=
  ⟨fun σ ρ G2 H2 s1 => h.nx σ ρ G2 H2 (s.trans s1), fun σ ρ G2 H2 v d s1 => h.rt σ ρ G2 H2 v d (s.trans s1), fun σ ρ G2 H2 s1 => h.bk σ ρ G2 H2 (s.trans s1), fun σ ρ G2 H2 s1 => h.ct σ ρ G2 H2 (s.trans s1), fun σ => (h.ex σ).up s⟩
theorem PE.imp {e : Expr} {t t' : TE} (h : PE X e t) (i : ∀ σ H Q, t' σ H Q → t σ H Q) : PE X e t' := ⟨fun pins s σ H Q I q => h.run pins s σ H Q I (i σ H Q q)⟩
theorem PT.imp {e : Expr} {t t' : TT} (h : PT X e t) (i : ∀ σ H Q, t' σ H Q → t σ H Q) : PT X e t' := ⟨fun pins s σ H Q I q => h.run pins s σ H Q I (i σ H Q q)⟩
theorem PW.imp {e : Expr} {t t' : TT} (h : PW X e t) (i : ∀ σ H Q, t' σ H Q → t σ H Q) : PW X e t' := ⟨fun w pins s σ H Q I q => h.run w pins s σ H Q I (i σ H Q q)⟩
theorem PA.imp {e : List Expr} {t t' : TA} (h : PA X e t) (i : ∀ σ H Q, t' σ H Q → t σ H Q) : PA X e t' := ⟨fun p pins s σ H Q I q => h.run p pins s σ H Q I (i σ H Q q)⟩
theorem PS.imp {e : Stmt} {t t' : TS} (h : PS X e t) (i : ∀ Dn σ H, t' Dn σ H → t Dn σ H) : PS X e t' := ⟨fun pins s σ H Q I q => h.run pins s σ H Q I (i Q σ H q)⟩
theorem PSs.imp {e : List Stmt} {t t' : TS} (h : PSs X e t) (i : ∀ Dn σ H, t' Dn σ H → t Dn σ H) : PSs X e t' := ⟨fun pins s σ H Q I q => h.run pins s σ H Q I (i Q σ H q)⟩
abbrev Ee (X : Cx) (cf : Cf) (W : WX) (e : Expr) (a : AE) : Prop := PE X e (γE cf W a)
abbrev Et (X : Cx) (cf : Cf) (W : WX) (e : Expr) (a : AT) : Prop := PT X e (γT cf W a)
abbrev Ew (X : Cx) (cf : Cf) (W : WX) (e : Expr) (a : AT) : Prop := PW X e (γT cf W a)
abbrev Ea (X : Cx) (cf : Cf) (W : WX) (es : List Expr) (a : AA) : Prop := PA X es (γA cf W a)
abbrev Es (X : Cx) (cf : Cf) (W : WX) (st : Stmt) (a : AS) : Prop := PS X st (γS cf W a)
abbrev Eb (X : Cx) (cf : Cf) (W : WX) (st : List Stmt) (a : AS) : Prop := PSs X st (γS cf W a)
abbrev Eg (X : Cx) (cf : Cf) (e : Expr) (g : AG) : Prop := PG X e (γG cf g)
/-! ### names, constants -/
def aV (i : Nat) : AE := fun ρ P _ => match sl ρ i with
  | some d => P d ρ
  | none => False
theorem e_var {i : Nat} {e : Expr} (h : PE X e (tVar i)) (hi : i ∉ cf.O) : Ee X cf W e (aV i) := PE.imp h fun σ H Q ⟨M, G, ρ, P, Xp, R, q, _, a⟩ => by
  unfold aV at a
  cases e : sl ρ i with
  | none => rw [e] at a; exact a.elim
  | some d =>
    rw [e] at a
    obtain ⟨v, h1, h2⟩ := R.imm i d hi e
    exact ⟨v, h1, q d ρ v G H (Same.refl _) R h2 a⟩
/-- a thing of one's own is handed on: it is one's own no longer -/
def aM (i : Nat) : AE := fun ρ P _ => match sl ρ i with
  | some d => P d (ρ.set i none)
  | none => False
def aC (d : D) : AE := fun ρ P _ => P d ρ
theorem e_const {e : Expr} {v : V} {d : D} (h : PE X e (tC v)) (r : ∀ G, Rp cf.K cf.cl G v d) : Ee X cf W e (aC d) := PE.imp h fun σ H Q ⟨M, G, ρ, P, Xp, R, q, _, a⟩ => q d ρ v G H (Same.refl _) R (r G) a
theorem e_int {i j pos} : Ee X cf W (.Constant (.int i) j pos) (aC (.int i)) := e_const pe_int fun _ => .int i
theorem e_bl {i j pos} : Ee X cf W (.Constant (.bool i) j pos) (aC (.bl i)) := e_const pe_bl fun _ => .bl i
theorem e_str {i j pos} : Ee X cf W (.Constant (.str i) j pos) (aC (.str i)) := e_const pe_str fun _ => .str i
theorem e_non {j pos} : Ee X cf W (.Constant .none j pos) (aC .non) := e_const pe_non fun _ => .non
/-! ### operators: a rule over values r, its plain form f -/
def RlO (cf : Cf) (r : R2) (f : D → D → (D → Prop) → Prop) : Prop := ∀ (M : Fx) (G H : Hp) (σ : St) (ρ : Ev) (x y : V) (dx dy : D) (Q : VK) (P : D → Prop), Rs cf M G H σ ρ → Rp cf.K cf.cl G x dx → Rp cf.K cf.cl G y dy →
  (∀ d v G' H', Same G G' → Rs cf M G' H' σ ρ → Rp cf.K cf.cl G' v d → P d → Q v H') → f dx dy P → r x y H Q
def aO (f : D → D → (D → Prop) → Prop) (a b : AE) : AE := fun ρ P X => a ρ (fun x ρ1 => b ρ1 (fun y ρ2 => f x y fun d => P d ρ2) X) X
theorem two {r : R2} {f : D → D → (D → Prop) → Prop} {a b : AE} (hr : RlO cf r f) : ∀ σ H Q, γE cf W (aO f a b) σ H Q → tOp r (γE cf W a) (γE cf W b) σ H Q := by
  rintro σ H Q ⟨M, G, ρ, P, Xp, R, q, w, h⟩
  refine ⟨M, G, ρ, _, Xp, R, fun x ρ1 v G1 H1 s1 R1 rx h1 => ?_, w, h⟩
  refine ⟨M, G1, ρ1, _, Xp, R1, fun y ρ2 u G2 H2 s2 R2 ry h2 => ?_, w.up s1, h1⟩
  exact hr M G2 H2 σ ρ2 v u x y Q _ R2 (rx.up s2) ry (fun d z G3 H3 s3 R3 rz p => q d ρ2 z G3 H3 ((s1.trans s2).trans s3) R3 rz p) h2
theorem e_op {op : Operator} {r : R2} {f : D → D → (D → Prop) → Prop} {x y : Expr} {a b : AE} {pos : Pos} (ho : OpR X (binaryOp op) r) (hr : RlO cf r f) (ha : Ee X cf W x a) (hb : Ee X cf W y b) : Ee X cf W (.BinOp x op y pos) (aO f a b) := PE.imp (pe_op ho ha hb) (two hr)
theorem e_cmp {op : CmpOp} {r : R2} {f : D → D → (D → Prop) → Prop} {x y : Expr} {a b : AE} {pos : Pos} (ho : OpR X (compareOp op) r) (hr : RlO cf r f) (ha : Ee X cf W x a) (hb : Ee X cf W y b) (hm : behindInMarks op y = false := by rfl) : Ee X cf W (.Compare x [op] [y] pos) (aO f a b) := PE.imp (pe_cmpR ho ha hb hm) (two hr)
theorem e_ix {r : R2} {f : D → D → (D → Prop) → Prop} {x y : Expr} {a b : AE} {pos : Pos} (ho : IxR X r) (hr : RlO cf r f) (ha : Ee X cf W x a) (hb : Ee X cf W y b) (hs : PlainIx y := by exact fun _ _ => rfl) : Ee X cf W (.Subscript x y pos) (aO f a b) := PE.imp (pe_ix ho ha hb hs) (two hr)
/-- a truth as a test -/
def aB (a : AE) : AT := fun ρ P X => a ρ (fun d ρ1 => match d with
  | .bl b => P b ρ1
  | _ => False) X
theorem toB {a : AE} : ∀ σ H Q, γT cf W (aB a) σ H Q → (fun σ H Q => γE cf W a σ H fun x H1 => ∃ c, x = .bl c ∧ Q c H1) σ H Q := by
  rintro σ H Q ⟨M, G, ρ, P, Xp, R, q, w, h⟩
  refine ⟨M, G, ρ, _, Xp, R, fun x ρ1 v G1 H1 s1 R1 rx h1 => ?_, w, h⟩
  cases rx with
  | bl b => exact ⟨b, rfl, q b ρ1 G1 H1 s1 R1 h1⟩
  | _ => exact h1.elim
theorem t_val {e : Expr} {a : AE} (h : Ee X cf W e a) (he : ∀ whole, isTrue e X.env whole = (do let v ← whole; standAt e.pos; holding [v] (truthy v)) := by intro _; rfl) : Et X cf W e (aB a) := PT.imp (pt_val h he) toB
theorem t_cmp {op : CmpOp} {r : R2} {f : D → D → (D → Prop) → Prop} {x y : Expr} {a b : AE} {pos : Pos} (ho : OpR X (compareOp op) r) (hr : RlO cf r f) (ha : Ee X cf W x a) (hb : Ee X cf W y b) (hm : behindInMarks op y = false := by rfl) : Et X cf W (.Compare x [op] [y] pos) (aB (aO f a b)) :=
  PT.imp (pt_cmpR ho ha hb hm) fun σ H Q h => two hr σ H _ (toB σ H Q h)
def aTAnd (a b : AT) : AT := fun ρ P X => a ρ (fun c ρ1 => if c = true then b ρ1 P X else P false ρ1) X
def aTOr (a b : AT) : AT := fun ρ P X => a ρ (fun c ρ1 => if c = true then P true ρ1 else b ρ1 P X) X
def aTNot (a : AT) : AT := fun ρ P X => a ρ (fun c ρ1 => P (!c) ρ1) X
theorem w_and1 {x : Expr} {a : AT} {pos : Pos} (ha : Et X cf W x a) : Ew X cf W (.BoolOp .And [x] pos) a := pw_and1 ha
theorem w_or1 {x : Expr} {a : AT} {pos : Pos} (ha : Et X cf W x a) : Ew X cf W (.BoolOp .Or [x] pos) a := pw_or1 ha
theorem w_and {x y : Expr} {rest : List Expr} {a b : AT} {pos : Pos} (ha : Et X cf W x a) (hb : Ew X cf W (.BoolOp .And (y :: rest) pos) b) : Ew X cf W (.BoolOp .And (x :: y :: rest) pos) (aTAnd a b) := PW.imp (pw_and ha hb) fun σ H Q ⟨M, G, ρ, P, Xp, R, q, w, h⟩ => by
  refine ⟨M, G, ρ, _, Xp, R, fun c ρ1 G1 H1 s1 R1 h1 => ?_, w, h⟩
  cases c with
  | true => exact ⟨M, G1, ρ1, P, Xp, R1, fun b ρ2 G2 H2 s2 => q b ρ2 G2 H2 (s1.trans s2), w.up s1, h1⟩
  | false => exact q false ρ1 G1 H1 s1 R1 h1
theorem w_or {x y : Expr} {rest : List Expr} {a b : AT} {pos : Pos} (ha : Et X cf W x a) (hb : Ew X cf W (.BoolOp .Or (y :: rest) pos) b) : Ew X cf W (.BoolOp .Or (x :: y :: rest) pos) (aTOr a b) := PW.imp (pw_or ha hb) fun σ H Q ⟨M, G, ρ, P, Xp, R, q, w, h⟩ => by
  refine ⟨M, G, ρ, _, Xp, R, fun c ρ1 G1 H1 s1 R1 h1 => ?_, w, h⟩
  cases c with
  | false => exact ⟨M, G1, ρ1, P, Xp, R1, fun b ρ2 G2 H2 s2 => q b ρ2 G2 H2 (s1.trans s2), w.up s1, h1⟩
  | true => exact q true ρ1 G1 H1 s1 R1 h1
theorem t_w {x : Expr} {a : AT} (h : Ew X cf W x a) : Et X cf W x a := PW.pt h
theorem t_not {x : Expr} {a : AT} {pos : Pos} (ha : Et X cf W x a) : Et X cf W (.UnaryOp .Not x pos) (aTNot a) := PT.imp (pt_not ha) fun σ H Q ⟨M, G, ρ, P, Xp, R, q, w, h⟩ =>
  ⟨M, G, ρ, _, Xp, R, fun c ρ1 G1 H1 s1 R1 h1 => q (!c) ρ1 G1 H1 s1 R1 h1, w, h⟩
/-! ### and, or, not as values -/
def aAnd (a b : AE) : AE := fun ρ P X => a ρ (fun d ρ1 => match d with
  | .bl c => if c = true then b ρ1 P X else P (.bl false) ρ1
  | _ => False) X
def aOr (a b : AE) : AE := fun ρ P X => a ρ (fun d ρ1 => match d with
  | .bl c => if c = true then P (.bl true) ρ1 else b ρ1 P X
  | _ => False) X
def aNot (a : AE) : AE := fun ρ P X => a ρ (fun d ρ1 => match d with
  | .bl c => P (.bl (!c)) ρ1
  | _ => False) X
theorem e_one {op} {x : Expr} {a : AE} {pos : Pos} (h : Ee X cf W x a) : Ee X cf W (.BoolOp op [x] pos) a := pe_one h
theorem e_and {x y : Expr} {rest : List Expr} {a b : AE} {pos : Pos} (ha : Ee X cf W x a) (hb : Ee X cf W (.BoolOp .And (y :: rest) pos) b) : Ee X cf W (.BoolOp .And (x :: y :: rest) pos) (aAnd a b) := PE.imp (pe_and ha hb) fun σ H Q ⟨M, G, ρ, P, Xp, R, q, w, h⟩ => by
  refine ⟨M, G, ρ, _, Xp, R, fun d ρ1 v G1 H1 s1 R1 rd h1 => ?_, w, h⟩
  cases rd with
  | bl c =>
    refine ⟨c, rfl, ?_⟩
    cases c with
    | true => exact ⟨M, G1, ρ1, P, Xp, R1, q.up s1, w.up s1, h1⟩
    | false => exact q (.bl false) ρ1 _ G1 H1 s1 R1 (.bl _) h1
  | _ => exact h1.elim
theorem e_or {x y : Expr} {rest : List Expr} {a b : AE} {pos : Pos} (ha : Ee X cf W x a) (hb : Ee X cf W (.BoolOp .Or (y :: rest) pos) b) : Ee X cf W (.BoolOp .Or (x :: y :: rest) pos) (aOr a b) := PE.imp (pe_or ha hb) fun σ H Q ⟨M, G, ρ, P, Xp, R, q, w, h⟩ => by
  refine ⟨M, G, ρ, _, Xp, R, fun d ρ1 v G1 H1 s1 R1 rd h1 => ?_, w, h⟩
  cases rd with
  | bl c =>
    refine ⟨c, rfl, ?_⟩
    cases c with
    | false => exact ⟨M, G1, ρ1, P, Xp, R1, q.up s1, w.up s1, h1⟩
    | true => exact q (.bl true) ρ1 _ G1 H1 s1 R1 (.bl _) h1
  | _ => exact h1.elim
theorem e_not {x : Expr} {a : AE} {pos : Pos} (ha : Ee X cf W x a) : Ee X cf W (.UnaryOp .Not x pos) (aNot a) := PE.imp (pe_not ha) fun σ H Q ⟨M, G, ρ, P, Xp, R, q, w, h⟩ => by
  refine ⟨M, G, ρ, _, Xp, R, fun d ρ1 v G1 H1 s1 R1 rd h1 => ?_, w, h⟩
  cases rd with
  | bl c => exact ⟨c, rfl, q _ ρ1 _ G1 H1 s1 R1 (.bl _) h1⟩
  | _ => exact h1.elim
def aIf (c : AT) (a b : AE) : AE := fun ρ P X => c ρ (fun k ρ1 => if k = true then a ρ1 P X else b ρ1 P X) X
theorem e_if {c x y : Expr} {k : AT} {a b : AE} {pos : Pos} (hc : Et X cf W c k) (ha : Ee X cf W x a) (hb : Ee X cf W y b) : Ee X cf W (.IfExp c x y pos) (aIf k a b) := PE.imp (pe_ifExp hc ha hb) fun σ H Q ⟨M, G, ρ, P, Xp, R, q, w, h⟩ => by
  refine ⟨M, G, ρ, _, Xp, R, fun k ρ1 G1 H1 s1 R1 h1 => ?_, w, h⟩
  cases k with
  | true => exact ⟨M, G1, ρ1, P, Xp, R1, q.up s1, w.up s1, h1⟩
  | false => exact ⟨M, G1, ρ1, P, Xp, R1, q.up s1, w.up s1, h1⟩
def aU (f : D → (D → Prop) → Prop) (a : AE) : AE := fun ρ P X => a ρ (fun x ρ1 => f x fun d => P d ρ1) X
def RlU (cf : Cf) (r : V → Hp → VK → Prop) (f : D → (D → Prop) → Prop) : Prop := ∀ (M : Fx) (G H : Hp) (σ : St) (ρ : Ev) (x : V) (dx : D) (Q : VK) (P : D → Prop), Rs cf M G H σ ρ → Rp cf.K cf.cl G x dx →
  (∀ d v G' H', Same G G' → Rs cf M G' H' σ ρ → Rp cf.K cf.cl G' v d → P d → Q v H') → f dx P → r x H Q
theorem one {r : V → Hp → VK → Prop} {f : D → (D → Prop) → Prop} {a : AE} (hr : RlU cf r f) : ∀ σ H Q, γE cf W (aU f a) σ H Q → (fun σ H Q => γE cf W a σ H fun x H1 => r x H1 Q) σ H Q := by
  rintro σ H Q ⟨M, G, ρ, P, Xp, R, q, w, h⟩
  refine ⟨M, G, ρ, _, Xp, R, fun x ρ1 v G1 H1 s1 R1 rx h1 => ?_, w, h⟩
  exact hr M G1 H1 σ ρ1 v x Q _ R1 rx (fun d z G3 H3 s3 R3 rz p => q d ρ1 z G3 H3 (s1.trans s3) R3 rz p) h1
theorem e_un {op : UnaryOp} {r : V → Hp → VK → Prop} {f : D → (D → Prop) → Prop} {x : Expr} {a : AE} {pos : Pos} (ho : UnR X (unaryOp op) r) (hr : RlU cf r f) (ha : Ee X cf W x a) : Ee X cf W (.UnaryOp op x pos) (aU f a) := PE.imp (pe_un ho ha) (one hr)
/-! ### arguments, displays -/
def aNil : AA := fun ρ P _ => P [] ρ
def aCons (a : AE) (r : AA) : AA := fun ρ P X => a ρ (fun d ρ1 => r ρ1 (fun ds ρ2 => P (.inl d :: ds) ρ2) X) X
def aOwn (i : Nat) (r : AA) : AA := fun ρ P X => match sl ρ i with
  | some _ => r ρ (fun ds ρ2 => P (.inr i :: ds) ρ2) X
  | none => False
theorem a_nil : Ea X cf W [] aNil := PA.imp pa_nil fun σ H Q ⟨M, G, ρ, P, Xp, R, q, _, a⟩ => q [] ρ [] G H (Same.refl _) R .nil a
theorem a_cons {e : Expr} {es : List Expr} {a : AE} {r : AA} (ha : Ee X cf W e a) (hr : Ea X cf W es r) (hs : starEach (e :: es) X.env = (false, eval e X.env) :: starEach es X.env := by rfl) : Ea X cf W (e :: es) (aCons a r) := PA.imp (pa_cons ha hr hs) fun σ H Q ⟨M, G, ρ, P, Xp, R, q, w, h⟩ => by
  refine ⟨M, G, ρ, _, Xp, R, fun d ρ1 v G1 H1 s1 R1 rd h1 => ?_, w, h⟩
  refine ⟨M, G1, ρ1, _, Xp, R1, fun ds ρ2 vs G2 H2 s2 R2 rds h2 => ?_, w.up s1, h1⟩
  exact q _ ρ2 _ G2 H2 (s1.trans s2) R2 (.val (rd.up s2) rds) h2
/-- all arguments are values -/
def vals : List Ar → Option (List D)
  | [] => some []
  | .inl d :: r => (vals r).map (d :: ·)
  | .inr _ :: _ => none
theorem vals_of {G : Hp} {σ : St} : ∀ {vs : List V} {xs : List Ar} {ds : List D}, RpA cf G σ vs xs → vals xs = some ds → Rps cf.K cf.cl G vs ds
  | _, _, _, .nil, h => by cases h; exact .nil
  | _, _, _, .val (xs := xs) a r, h => by
    unfold vals at h
    cases e : vals xs with
    | none => rw [e] at h; cases h
    | some es => rw [e] at h; cases h; exact .cons a (vals_of r e)
  | _, _, _, .own a r, h => by cases h
def withV (xs : List Ar) (k : List D → Prop) : Prop := match vals xs with
  | some ds => k ds
  | none => False
theorem withV_of {xs : List Ar} {k : List D → Prop} (h : withV xs k) : ∃ ds, vals xs = some ds ∧ k ds := by
  unfold withV at h
  cases e : vals xs with
  | none => rw [e] at h; exact h.elim
  | some ds => rw [e] at h; exact ⟨ds, rfl, h⟩
def aTup (a : AA) : AE := fun ρ P X => a ρ (fun xs ρ1 => withV xs fun ds => ds.length ≤ sizeLine ∧ P (.tup ds) ρ1) X
def aLst (a : AA) : AE := fun ρ P X => a ρ (fun xs ρ1 => withV xs fun ds => ds.length ≤ sizeLine ∧ P (.lst ds) ρ1) X
theorem e_tup {es : List Expr} {a : AA} {x1} {pos : Pos} (h : Ea X cf W es a) : Ee X cf W (.Tuple es x1 pos) (aTup a) := PE.imp (pe_tup h) fun σ H Q ⟨M, G, ρ, P, Xp, R, q, w, h⟩ => by
  refine ⟨M, G, ρ, _, Xp, R, fun xs ρ1 vs G1 H1 s1 R1 ra h1 => ?_, w, h⟩
  obtain ⟨ds, e, hl, h1⟩ := withV_of h1
  have r := vals_of ra e
  refine ⟨by rw [r.len]; exact hl, fun p np => ?_⟩
  obtain ⟨R2, s2, gp⟩ := R1.new (o := .tup vs) np
  exact q _ ρ1 _ _ _ (s1.trans s2) R2 (.tup (ofT gp) (r.up s2)) h1
theorem e_lst {es : List Expr} {a : AA} {pos : Pos} (h : Ea X cf W es a) : Ee X cf W (.List es pos) (aLst a) := PE.imp (pe_lst h) fun σ H Q ⟨M, G, ρ, P, Xp, R, q, w, h⟩ => by
  refine ⟨M, G, ρ, _, Xp, R, fun xs ρ1 vs G1 H1 s1 R1 ra h1 => ?_, w, h⟩
  obtain ⟨ds, e, hl, h1⟩ := withV_of h1
  have r := vals_of ra e
  refine ⟨by rw [r.len]; exact hl, fun p np => ?_⟩
  obtain ⟨R2, s2, gp⟩ := R1.new (o := .lst vs) np
  exact q _ ρ1 _ _ _ (s1.trans s2) R2 (.lst gp (r.up s2)) h1
/-! ### built-in functions: a rule over values r, its plain form f -/
def RlC (cf : Cf) (r : List V → Hp → VK → Prop) (f : List D → (D → Prop) → Prop) : Prop := ∀ (M : Fx) (G H : Hp) (σ : St) (ρ : Ev) (xs : List V) (ds : List D) (Q : VK) (P : D → Prop), Rs cf M G H σ ρ → Rps cf.K cf.cl G xs ds →
  (∀ d v G' H', Same G G' → Rs cf M G' H' σ ρ → Rp cf.K cf.cl G' v d → P d → Q v H') → f ds P → r xs H Q
def aF (f : List D → (D → Prop) → Prop) (a : AA) : AE := fun ρ P X => a ρ (fun xs ρ1 => withV xs fun ds => f ds fun d => P d ρ1) X
theorem many {r : List V → Hp → VK → Prop} {f : List D → (D → Prop) → Prop} {a : AA} (hr : RlC cf r f) : ∀ σ H Q, γE cf W (aF f a) σ H Q → (fun σ H Q => γA cf W a σ H fun vs H1 => r vs H1 Q) σ H Q := by
  rintro σ H Q ⟨M, G, ρ, P, Xp, R, q, w, h⟩
  refine ⟨M, G, ρ, _, Xp, R, fun xs ρ1 vs G1 H1 s1 R1 ra h1 => ?_, w, h⟩
  obtain ⟨ds, e, h1⟩ := withV_of h1
  exact hr M G1 H1 σ ρ1 vs ds Q _ R1 (vals_of ra e) (fun d z G3 H3 s3 R3 rz p => q d ρ1 z G3 H3 (s1.trans s3) R3 rz p) h1
theorem e_callB {id : String} {x : Str} {e : Expr} {es : List Expr} {p pos : Pos} {r : List V → Hp → VK → Prop} {f : List D → (D → Prop) → Prop} {a : AA} (hc : CallR X (.builtin id) r) (hr : RlC cf r f) (hg : Gl X x) (hm : X.mg x = none) (hv : bootBuiltins x = some (.builtin id)) (ha : Ea X cf W (e :: es) a) (hn : x ≠ "__name__" := by decide) (hdb : (x == ("__debug__" : Str)) = false := by decide)
    (he : starEach (e :: es) X.env = (false, eval e X.env) :: starEach es X.env := by rfl) (hpl : (backTo pos (starEach es X.env)).any (·.1) = false := by rfl) : Ee X cf W (.Call (.Name x p) (e :: es) [] pos) (aF f a) := PE.imp (pe_callB hc hg hm hv ha hn hdb he hpl) (many hr)
theorem e_callTy {T : String} {x : Str} {e : Expr} {es : List Expr} {p pos : Pos} {r : List V → Hp → VK → Prop} {f : List D → (D → Prop) → Prop} {a : AA} (hc : CallR X (.type T) r) (hr : RlC cf r f) (hg : Gl X x) (hm : X.mg x = none) (hv : bootBuiltins x = some (.type T)) (ha : Ea X cf W (e :: es) a) (hn : x ≠ "__name__" := by decide) (hdb : (x == ("__debug__" : Str)) = false := by decide)
    (he : starEach (e :: es) X.env = (false, eval e X.env) :: starEach es X.env := by rfl) (hpl : (backTo pos (starEach es X.env)).any (·.1) = false := by rfl) : Ee X cf W (.Call (.Name x p) (e :: es) [] pos) (aF f a) := PE.imp (pe_callTy hc hg hm hv ha hn hdb he hpl) (many hr)
/-! ### statements -/
def sNext : AS := fun A ρ => A.nx ρ
def sSeq (s t : AS) : AS := fun A ρ => s { A with nx := t A } ρ
theorem b_nil : Eb X cf W [] sNext := PSs.imp pss_nil fun Dn σ H ⟨M, G, ρ, A, R, q, h⟩ => q.nx σ ρ G H (Same.refl _) R h
theorem b_one {st : Stmt} {s : AS} (h : Es X cf W st s) : Eb X cf W [st] s := pss_one h
theorem b_cons {st : Stmt} {rest : List Stmt} {s t : AS} (h : Es X cf W st s) (ht : Eb X cf W rest t) : Eb X cf W (st :: rest) (sSeq s t) := PSs.imp (pss_cons h ht) fun Dn σ H ⟨M, G, ρ, A, R, q, h⟩ => by
  refine ⟨M, G, ρ, { A with nx := t A }, R, ⟨fun σ1 ρ1 G1 H1 s1 R1 h1 => ?_, q.rt, q.bk, q.ct, q.ex⟩, h⟩
  exact ⟨M, G1, ρ1, A, R1, q.up s1, h1⟩
def sSet (i : Nat) (a : AE) : AS := fun A ρ => a ρ (fun d ρ1 => A.nx (ρ1.set i (some d))) A.ex
def gV (i : Nat) : AG := fun d ρ k => k (ρ.set i (some d))
theorem asg {a : AE} {g : AG} : ∀ Dn σ H, γS cf W (fun A ρ => a ρ (fun d ρ1 => g d ρ1 A.nx) A.ex) Dn σ H → tAsg (γE cf W a) (γG cf g) Dn σ H := by
  rintro Dn σ H ⟨M, G, ρ, A, R, q, h⟩
  refine ⟨M, G, ρ, _, A.ex, R, fun d ρ1 v G1 H1 s1 R1 rd h1 => ?_, q.ex σ, h⟩
  exact ⟨M, G1, ρ1, d, A.nx, R1, rd, fun σ2 ρ2 G2 H2 s2 R2 h2 => q.nx σ2 ρ2 G2 H2 (s1.trans s2) R2 h2, h1⟩
def sAsg (g : AG) (a : AE) : AS := fun A ρ => a ρ (fun d ρ1 => g d ρ1 A.nx) A.ex
theorem s_asg {tg e : Expr} {a : AE} {g : AG} {pos : Pos} (he : Ee X cf W e a) (hg : Eg X cf tg g) (h : PE X e (γE cf W a) → PG X tg (γG cf g) → PS X (.Assign [tg] e pos) (tAsg (γE cf W a) (γG cf g))) : Es X cf W (.Assign [tg] e pos) (sAsg g a) := PS.imp (h he hg) asg
theorem s_set {i : Nat} {x : Str} {e : Expr} {a : AE} {pos pos' : Pos} (hN : X.N.Nodup) (hi : X.N[i]? = some x) (hx : Loc X.env.scope x) (hO : i ∉ cf.O) (he : Ee X cf W e a) (hs : swapsWith e (some (.Name x pos')) pos.line X.env = pure false := by rfl) (hf : X.fn x = true ∨ X.env.scope.names.lookup x = some .local := by first | exact .inl rfl | exact .inr rfl | assumption) :
    Es X cf W (.Assign [.Name x pos'] e pos) (sSet i a) := PS.imp (ps_set hN hi hx he hs hf) fun Dn σ H ⟨M, G, ρ, A, R, q, h⟩ => by
  refine ⟨M, G, ρ, _, A.ex, R, fun d ρ1 v G1 H1 s1 R1 rd h1 => ?_, q.ex σ, h⟩
  exact q.nx _ _ G1 H1 s1 (R1.set hO rd) h1
def sExpr (a : AE) : AS := fun A ρ => a ρ (fun _ ρ1 => A.nx ρ1) A.ex
def sRet (a : AE) : AS := fun A ρ => a ρ A.rt A.ex
theorem s_ret {e : Expr} {a : AE} {pos : Pos} (he : Ee X cf W e a) : Es X cf W (.Return (some e) pos) (sRet a) := PS.imp (ps_ret he) fun Dn σ H ⟨M, G, ρ, A, R, q, h⟩ =>
  ⟨M, G, ρ, _, A.ex, R, fun d ρ1 v G1 H1 s1 R1 rd h1 => q.rt σ ρ1 G1 H1 v d s1 R1 rd h1, q.ex σ, h⟩
def sRetN : AS := fun A ρ => A.rt .non ρ
def sIf (c : AT) (s t : AS) : AS := fun A ρ => c ρ (fun b ρ1 => if b = true then s A ρ1 else t A ρ1) A.ex
theorem s_if {c : Expr} {x y : List Stmt} {k : AT} {s t : AS} {pos : Pos} (hc : Et X cf W c k) (hs : Eb X cf W x s) (ht : Eb X cf W y t) : Es X cf W (.If c x y pos) (sIf k s t) := PS.imp (ps_if hc hs ht) fun Dn σ H ⟨M, G, ρ, A, R, q, h⟩ => by
  refine ⟨M, G, ρ, _, A.ex, R, fun b ρ1 G1 H1 s1 R1 h1 => ?_, q.ex σ, h⟩
  cases b with
  | true => exact ⟨M, G1, ρ1, A, R1, q.up s1, h1⟩
  | false => exact ⟨M, G1, ρ1, A, R1, q.up s1, h1⟩
def sBrk : AS := fun A ρ => A.bk ρ
def sCnt : AS := fun A ρ => A.ct ρ
end
end Al

/-! AL2: things walked, loops, comprehensions. -/
namespace Al
open PySem L2 Cr
abbrev AI := Ev → (List D → Ev → Prop) → XP → Prop
def NX : XP := fun _ => False
def W0 : WX := fun _ _ _ _ => False
/-- what an iterator hands out -/
def ItR (cf : Cf) (G : Hp) (J : It) (ds : List D) : Prop := ∀ (M : Fx) (G' H' : Hp) (σ : St) (ρ : Ev), Same G G' → Rs cf M G' H' σ ρ →
  (∀ i, i < ds.length → J.go i H' ∧ ∀ x H'', J.yld i H' x H'' → ∃ d G'', ds[i]? = some d ∧ Same G' G'' ∧ Rs cf M G'' H'' σ ρ ∧ Rp cf.K cf.cl G'' x d) ∧ J.stop ds.length H'
def γI (cf : Cf) (W : WX) (a : AI) : TI := fun σ H R => ∃ (M : Fx) (G : Hp) (ρ : Ev) (P : List D → Ev → Prop) (X : XP), Rs cf M G H σ ρ ∧ (∀ ds ρ' J G' H', Same G G' → Rs cf M G' H' σ ρ' → ItR cf G' J ds → P ds ρ' → R J H') ∧ XW cf W M G σ X ∧ a ρ P X
section
variable {X : Cx} {cf : Cf} {W : WX}
theorem PI.imp {tg e : Expr} {t t' : TI} (h : PI X tg e t) (i : ∀ σ H Q, t' σ H Q → t σ H Q) : PI X tg e t' := ⟨fun pins s σ H Q I q => h.run pins s σ H Q I (i σ H Q q)⟩
abbrev Ei (X : Cx) (cf : Cf) (W : WX) (tg e : Expr) (a : AI) : Prop := PI X tg e (γI cf W a)
theorem Itl_ok {G : Hp} {a : Addr} {vs : List V} {ds : List D} (h : G a = some (.lst vs)) (r : Rps cf.K cf.cl G vs ds) : ItR cf G (Itl cf.K a) ds := fun M G' H' σ ρ s R => by
  have hH : SqL cf.K H' a vs := sqL_up (s.trans R.same) h
  refine ⟨fun i hi => ?_, ⟨vs, hH, Nat.le_of_eq r.len⟩⟩
  have hv : i < vs.length := by rw [r.len]; exact hi
  refine ⟨⟨vs, vs[i], hH, by simp [hv]⟩, fun x H'' y => ?_⟩
  obtain ⟨e, y⟩ := y
  subst e
  obtain ⟨d, e1, e2⟩ := r.get (y vs hH)
  exact ⟨d, G', e1, Same.refl _, R, e2.up s⟩
theorem Itt_ok {G : Hp} {a : Addr} {vs : List V} {ds : List D} (h : SqT cf.K G a vs) (r : Rps cf.K cf.cl G vs ds) : ItR cf G (Itt cf.K a) ds := fun M G' H' σ ρ s R => by
  have hH : SqT cf.K H' a vs := Cr.Same.sqT (s.trans R.same) h
  refine ⟨fun i hi => ?_, ⟨vs, hH, Nat.le_of_eq r.len⟩⟩
  have hv : i < vs.length := by rw [r.len]; exact hi
  refine ⟨⟨vs, vs[i], hH, by simp [hv]⟩, fun x H'' y => ?_⟩
  obtain ⟨e, y⟩ := y
  subst e
  obtain ⟨d, e1, e2⟩ := r.get (y vs hH)
  exact ⟨d, G', e1, Same.refl _, R, e2.up s⟩
def iL (a : AE) : AI := fun ρ P X => a ρ (fun d ρ1 => match d with
  | .lst ds => P ds ρ1
  | _ => False) X
def iT (a : AE) : AI := fun ρ P X => a ρ (fun d ρ1 => match d with
  | .tup ds => P ds ρ1
  | _ => False) X
theorem i_list {tg l : Expr} {a : AE} (hl : Ee X cf W l a) (hK : X.K = cf.K := by rfl) : Ei X cf W tg l (iL a) := PI.imp (pi_list hl) fun σ H Q ⟨M, G, ρ, P, Xp, R, q, w, h⟩ => by
  refine ⟨M, G, ρ, _, Xp, R, fun d ρ1 v G1 H1 s1 R1 rd h1 => ?_, w, h⟩
  cases rd with
  | lst hs r => exact ⟨_, rfl, ⟨_, by rw [hK]; exact sqL_up R1.same hs⟩, by rw [hK]; exact q _ ρ1 _ G1 H1 s1 R1 (Itl_ok hs r) h1⟩
  | _ => exact h1.elim
theorem i_tup {tg l : Expr} {a : AE} (hl : Ee X cf W l a) (hK : X.K = cf.K := by rfl) : Ei X cf W tg l (iT a) := PI.imp (pi_tup hl) fun σ H Q ⟨M, G, ρ, P, Xp, R, q, w, h⟩ => by
  refine ⟨M, G, ρ, _, Xp, R, fun d ρ1 v G1 H1 s1 R1 rd h1 => ?_, w, h⟩
  cases rd with
  | tup hs r => exact ⟨_, rfl, ⟨_, by rw [hK]; exact Cr.Same.sqT R1.same hs⟩, by rw [hK]; exact q _ ρ1 _ G1 H1 s1 R1 (Itt_ok hs r) h1⟩
  | _ => exact h1.elim
/-- the numbers lo, lo + 1, .. -/
def rng (lo : Int) : Nat → List D
  | 0 => []
  | n + 1 => .int lo :: rng (lo + 1) n
theorem rng_len (lo : Int) (n : Nat) : (rng lo n).length = n := by
  induction n generalizing lo with
  | zero => rfl
  | succ n ih => simp [rng, ih]
theorem rng_get (lo : Int) (n i : Nat) (h : i < n) : (rng lo n)[i]? = some (.int (lo + i)) := by
  induction n generalizing lo i with
  | zero => omega
  | succ n ih =>
    cases i with
    | zero => simp [rng]
    | succ i => simp only [rng, List.getElem?_cons_succ]; rw [ih (lo + 1) i (by omega), show lo + 1 + (i : Nat) = lo + ((i + 1 : Nat) : Int) by omega]
theorem Itr_ok {G : Hp} (lo : Int) (n : Nat) : ItR cf G (Itr lo n) (rng lo n) := fun M G' H' σ ρ s R => by
  refine ⟨fun i hi => ?_, by rw [rng_len]; exact Nat.le_refl _⟩
  rw [rng_len] at hi
  refine ⟨hi, fun x H'' y => ?_⟩
  obtain ⟨rfl, rfl⟩ := y
  exact ⟨_, G', rng_get lo n i hi, Same.refl _, R, .int _⟩
def iR1 (a : AA) : AI := fun ρ P X => a ρ (fun xs ρ1 => withV xs fun ds => match ds with
  | [.int j] => (-(2 ^ 62) ≤ j ∧ j < 2 ^ 62) ∧ P (rng 0 j.toNat) ρ1
  | _ => False) X
theorem i_range1 {tg x : Expr} {a : AA} {p pos : Pos} (hg : Gl X "range") (hm : X.mg "range" = none) (ha : Ea X cf W [x] a) (hs : starEach [x] X.env = [(false, eval x X.env)] := by rfl) : Ei X cf W tg (.Call (.Name "range" p) [x] [] pos) (iR1 a) := PI.imp (pi_range1 hg hm ha hs) fun σ H Q ⟨M, G, ρ, P, Xp, R, q, w, h⟩ => by
  refine ⟨M, G, ρ, _, Xp, R, fun xs ρ1 vs G1 H1 s1 R1 ra h1 => ?_, w, h⟩
  obtain ⟨ds, e, h1⟩ := withV_of h1
  have r := vals_of ra e
  split at h1
  · cases r with
    | cons a1 a2 =>
      cases a2; cases a1
      exact ⟨_, rfl, h1.1.1, h1.1.2, q _ ρ1 _ G1 H1 s1 R1 (Itr_ok _ _) h1.2⟩
  · exact h1.elim
/-- the signs of a text -/
def signsD (x : Str) : List D := x.cps.toList.map fun c => D.str ⟨#[c]⟩
theorem Its_ok {G : Hp} (x : Str) : ItR cf G (Its x) (signsD x) := fun M G' H' σ ρ s R => by
  have hl : (signsD x).length = x.cps.size := by simp [signsD]
  refine ⟨fun i hi => ?_, by rw [hl]; exact Nat.le_refl _⟩
  rw [hl] at hi
  refine ⟨hi, fun v H'' y => ?_⟩
  obtain ⟨rfl, c, e, rfl⟩ := y
  refine ⟨.str ⟨#[c]⟩, G', ?_, Same.refl _, R, .str _⟩
  unfold signsD
  rw [List.getElem?_map, Array.getElem?_toList, e]
  rfl
def iS (a : AE) : AI := fun ρ P X => a ρ (fun d ρ1 => match d with
  | .str x => P (signsD x) ρ1
  | _ => False) X
theorem i_str {tg l : Expr} {a : AE} (hl : Ee X cf W l a) : Ei X cf W tg l (iS a) := PI.imp (pi_str hl) fun σ H Q ⟨M, G, ρ, P, Xp, R, q, w, h⟩ => by
  refine ⟨M, G, ρ, _, Xp, R, fun d ρ1 v G1 H1 s1 R1 rd h1 => ?_, w, h⟩
  cases rd with
  | str x => exact ⟨_, rfl, q _ ρ1 _ G1 H1 s1 R1 (Its_ok x) h1⟩
  | _ => exact h1.elim
/-! ### for -/
def forGo (g : AG) (b : AS) (A : AK) : List D → Ev → Prop
  | [], ρ => A.nx ρ
  | d :: ds, ρ => g d ρ fun ρ1 => b { A with nx := forGo g b A ds, ct := forGo g b A ds, bk := A.nx } ρ1
def sFor (i : AI) (g : AG) (b : AS) : AS := fun A ρ => i ρ (fun ds ρ1 => forGo g b A ds ρ1) A.ex
theorem for_ok {i : AI} {g : AG} {b : AS} : ∀ Dn σ H, γS cf W (sFor i g b) Dn σ H → tFor (γI cf W i) (γG cf g) (γS cf W b) Dn σ H := by
  rintro Dn σ H ⟨M, G, ρ, A, R, q, h⟩
  refine ⟨M, G, ρ, _, A.ex, R, fun ds ρ1 J G1 H1 s1 R1 it h1 => ?_, q.ex σ, h⟩
  refine ⟨fun i m σ H => m = ds.length - i ∧ i ≤ ds.length ∧ ∃ G' ρ', Same G1 G' ∧ Rs cf M G' H σ ρ' ∧ forGo g b A (ds.drop i) ρ', ⟨_, rfl, Nat.zero_le _, G1, ρ1, Same.refl _, R1, h1⟩, ?_⟩
  rintro i m σ2 H2 ⟨rfl, hi, G2, ρ2, s2, R2, h2⟩
  obtain ⟨go, st⟩ := it M G2 H2 σ2 ρ2 s2 R2
  by_cases c : i < ds.length
  · obtain ⟨g1, g2⟩ := go i c
    refine .inr ⟨g1, fun σ H => ∃ G' ρ', Same G1 G' ∧ Rs cf M G' H σ ρ' ∧ forGo g b A (ds.drop (i + 1)) ρ', fun σ' H' z => ⟨_, by omega, rfl, c, z⟩, fun x H3 y => ?_⟩
    obtain ⟨d, G3, e3, s3, R3, r3⟩ := g2 x H3 y
    have ed : ds.drop i = d :: ds.drop (i + 1) := by
      obtain ⟨hl, e4⟩ := List.getElem?_eq_some_iff.mp e3
      rw [← e4]
      exact List.drop_eq_getElem_cons hl
    rw [ed] at h2
    refine ⟨M, G3, ρ2, d, _, R3, r3, fun σ4 ρ4 G4 H4 s4 R4 h4 => ?_, h2⟩
    have s14 : Same G1 G4 := (s2.trans s3).trans s4
    refine ⟨M, G4, ρ4, _, R4, ?_, h4⟩
    have q4 := (q.up s1).up s14
    exact ⟨fun σ5 ρ5 G5 H5 s5 R5 h5 => ⟨G5, ρ5, s14.trans s5, R5, h5⟩, q4.rt, q4.nx, fun σ5 ρ5 G5 H5 s5 R5 h5 => ⟨G5, ρ5, s14.trans s5, R5, h5⟩, q4.ex⟩
  · have e : i = ds.length := by omega
    subst e
    rw [List.drop_length] at h2
    exact .inl ⟨st, q.nx σ2 ρ2 G2 H2 (s1.trans s2) R2 h2⟩
theorem s_for {tg iter : Expr} {body : List Stmt} {i : AI} {g : AG} {b : AS} {pos : Pos} (hp : PassesOwn (model X.prog X.w) X.A X.env X.xe) (hc : X.calm = true) (hi : Ei X cf W tg iter i) (hg : Eg X cf tg g) (hb : Eb X cf W body b)
    (hs : ∀ x, foldedSetIterable iter X.env x = pure x := by intro _; rfl) : Es X cf W (.For tg iter body [] pos) (sFor i g b) := PS.imp (ps_for hp hc hi hg hb hs) for_ok
end
end Al

/-! AL3: targets, new things of one's own, comprehensions. -/
namespace Al
open PySem L2 Cr
/-! ### targets: a name, a tuple of names -/
inductive Tg where
  | nm (i : Nat) | tp (is : List Nat)
def gsN : List Nat → TGs
  | [] => gNil
  | i :: r => gCons (gName i) (gsN r)
def Tg.c (K : PySem.W.Frag) : Tg → TG
  | .nm i => gName i
  | .tp is => gTup K is.length (gsN is)
def Tg.sl : Tg → List Nat
  | .nm i => [i]
  | .tp is => is
def setAll : List Nat → List D → Ev → Ev
  | i :: is, d :: ds, ρ => setAll is ds (ρ.set i (some d))
  | _, _, ρ => ρ
def Tg.a : Tg → AG
  | .nm i => gV i
  | .tp is => fun d ρ k => match d with
    | .tup ds => ds.length = is.length ∧ k (setAll is ds ρ)
    | _ => False
def setAllV : List Nat → List V → St → St
  | i :: is, v :: vs, σ => setAllV is vs (σ.set i (some v))
  | _, _, σ => σ
theorem gsN_of : ∀ (is : List Nat) (vs : List V) (σ : St) (H : Hp) (k : St → Hp → Prop), vs.length = is.length → k (setAllV is vs σ) H → gsN is vs σ H k
  | [], [], σ, H, k, _, h => ⟨rfl, h⟩
  | [], _ :: _, σ, H, k, e, h => by cases e
  | _ :: _, [], σ, H, k, e, h => by cases e
  | i :: is, v :: vs, σ, H, k, e, h => ⟨v, vs, rfl, gsN_of is vs _ H k (by simpa using e) h⟩
theorem Rs.setAll {cf : Cf} {M : Fx} {G H : Hp} : ∀ {is : List Nat} {vs : List V} {ds : List D} {σ : St} {ρ : Ev}, Rs cf M G H σ ρ → (∀ i ∈ is, i ∉ cf.O) → Rps cf.K cf.cl G vs ds → Rs cf M G H (setAllV is vs σ) (setAll is ds ρ)
  | [], _, _, σ, ρ, R, _, _ => by simp only [setAllV, Al.setAll]; exact R
  | i :: is, _, _, σ, ρ, R, h, .nil => by simp only [setAllV, Al.setAll]; exact R
  | i :: is, _, _, σ, ρ, R, h, .cons a r => by
    simp only [setAllV, Al.setAll]
    exact Rs.setAll (R.set (h i (by simp)) a) (fun j hj => h j (by simp [hj])) r
section
variable {X : Cx} {cf : Cf} {W : WX}
theorem tg_ok {t : Tg} (hO : ∀ i ∈ t.sl, i ∉ cf.O) {x : V} {σ : St} {H : Hp} {k : St → Hp → Prop} {M : Fx} {G : Hp} {ρ : Ev} {d : D} {P : Ev → Prop} (R : Rs cf M G H σ ρ) (r : Rp cf.K cf.cl G x d) (q : ∀ us σ' ρ', us.length = t.sl.length → σ' = setAllV t.sl us σ → Rs cf M G H σ' ρ' → P ρ' → k σ' H) (h : t.a d ρ P) : t.c cf.K x σ H k := by
  cases t with
  | nm i => exact q [x] _ _ rfl rfl (R.set (hO i (by simp [Tg.sl])) r) h
  | tp is =>
    cases r with
    | tup hs r =>
      obtain ⟨hl, h⟩ := h
      have l2 := r.len.trans hl
      exact ⟨_, _, rfl, Cr.Same.sqT R.same hs, l2, gsN_of is _ σ H k l2 (q _ _ _ l2 rfl (R.setAll hO r) h)⟩
    | _ => exact h.elim
theorem PG.imp {e : Expr} {t t' : TG} (h : PG X e t) (i : ∀ x σ H Q, t' x σ H Q → t x σ H Q) : PG X e t' := ⟨fun pins s σ H x u Q I r q => h.run pins s σ H x u Q I r (i x σ H Q q)⟩
theorem g_tg {t : Tg} {e : Expr} (h : PG X e (t.c cf.K)) (hO : ∀ i ∈ t.sl, i ∉ cf.O) : Eg X cf e t.a := PG.imp h fun x σ H Q ⟨M, G, ρ, d, P, R, r, q, hk⟩ => tg_ok hO R r (fun us σ' ρ' _ _ R' p => q σ' ρ' G H (Same.refl _) R' p) hk
end
/-! ### new things of one's own -/
/-- the value is a new thing, that no one else holds -/
def QF (cf : Cf) (M : Fx) (G : Hp) (σ : St) (P : D → Ev → Prop) (Q : VK) : Prop := ∀ d ρ' p o G' H', Same G G' → M.m p = none → H' p = some o → Rs cf (M.up p o) G' H' σ ρ' → RpO cf.K cf.cl G' H' p d → P d ρ' → Q (.ref p) H'
def γF (cf : Cf) (W : WX) (a : AE) : TE := fun σ H Q => ∃ (M : Fx) (G : Hp) (ρ : Ev) (P : D → Ev → Prop) (X : XP), Rs cf M G H σ ρ ∧ QF cf M G σ P Q ∧ XW cf W M G σ X ∧ a ρ P X
abbrev Ef (X : Cx) (cf : Cf) (W : WX) (e : Expr) (a : AE) : Prop := PE X e (γF cf W a)
section
variable {X : Cx} {cf : Cf} {W : WX}
theorem RpO.thaw {G H : Hp} {p : Addr} {o : HO} {d : D} (h : RpO cf.K cf.cl G H p d) (ho : H p = some o) (n : G p = none) : Rp cf.K cf.cl (upd G p o) (.ref p) d := by
  have sG : Same G (upd G p o) := same_up n
  have ga : (upd G p o) p = some o := upd_same
  cases h with
  | lst h r =>
    rw [h] at ho; cases ho
    exact .lst ga (r.up sG)
  | dic h r =>
    rw [h] at ho; cases ho
    exact .dic (.inl ga) (r.up sG)
  | ins h e' r =>
    rw [h] at ho; cases ho
    exact .ins ga e' (r.up sG)
theorem QE.qf {M : Fx} {G : Hp} {σ : St} {P : D → Ev → Prop} {Q : VK} (q : QE cf M G σ P Q) : QF cf M G σ P Q := fun d ρ p o G' H' s n ho R r h => by
  have np : G' p = none := (R.mem p o Fx.up_same).2
  obtain ⟨R2, s2, _⟩ := R.thaw n
  exact q d ρ _ _ H' (s.trans s2) R2 (r.thaw ho np) h
/-- a new thing, as a value -/
theorem e_new {e : Expr} {a : AE} (h : Ef X cf W e a) : Ee X cf W e a := PE.imp h fun σ H Q ⟨M, G, ρ, P, Xp, R, q, w, h⟩ => ⟨M, G, ρ, P, Xp, R, q.qf, w, h⟩
theorem f_lst {es : List Expr} {a : AA} {pos : Pos} (h : Ea X cf W es a) : Ef X cf W (.List es pos) (aLst a) := PE.imp (pe_lst h) fun σ H Q ⟨M, G, ρ, P, Xp, R, q, w, h⟩ => by
  refine ⟨M, G, ρ, _, Xp, R, fun xs ρ1 vs G1 H1 s1 R1 ra h1 => ?_, w, h⟩
  obtain ⟨ds, e, hl, h1⟩ := withV_of h1
  have r := vals_of ra e
  refine ⟨by rw [r.len]; exact hl, fun p np => ?_⟩
  have mp : M.m p = none := by
    cases z : M.m p with
    | none => rfl
    | some o => rw [(R1.mem p o z).1] at np; cases np
  exact q _ ρ1 p _ G1 _ s1 mp upd_same (R1.pin np) (.lst upd_same r) h1
theorem Rs.mfree {M : Fx} {G H : Hp} {σ : St} {ρ : Ev} {p : Addr} (R : Rs cf M G H σ ρ) (np : H p = none) : M.m p = none := by
  cases z : M.m p with
  | none => rfl
  | some o => rw [(R.mem p o z).1] at np; cases np
theorem f_dict {pos : Pos} {e : Expr} (h : PE X e tDNewK) : Ef X cf W e (aC (.dic [])) := PE.imp h fun σ H Q ⟨M, G, ρ, P, Xp, R, q, w, h⟩ p np => q _ ρ p _ G _ (Same.refl _) (R.mfree np) upd_same (R.pin np) (.dic upd_same .nil) h
/-- x = (something new), x a slot of one's own -/
theorem s_setO {i : Nat} {x : Str} {e : Expr} {a : AE} {pos pos' : Pos} (hN : X.N.Nodup) (hi : X.N[i]? = some x) (hx : Loc X.env.scope x) (hO : i ∈ cf.O) (hn : cf.np ≤ i) (he : Ef X cf W e a) (hs : swapsWith e (some (.Name x pos')) pos.line X.env = pure false := by rfl) (hf : X.fn x = true ∨ X.env.scope.names.lookup x = some .local := by first | exact .inl rfl | exact .inr rfl | assumption) :
    Es X cf W (.Assign [.Name x pos'] e pos) (sSet i a) := PS.imp (ps_set hN hi hx he hs hf) fun Dn σ H ⟨M, G, ρ, A, R, q, h⟩ => by
  refine ⟨M, G, ρ, _, A.ex, R, fun d ρ1 p o G1 H1 s1 n ho R1 rd h1 => ?_, q.ex σ, h⟩
  exact q.nx _ _ G1 H1 s1 (R1.setO n hO hn rd) h1
/-! ### comprehensions -/
def wipeD (ρ : Ev) : List Nat → Ev
  | [] => ρ
  | v :: vs => (wipeD ρ vs).set v none
def backD (vs : List Nat) : Nat → Ev → Ev → Ev
  | k, d1 :: r1, d :: r => (match vs.contains k with
    | true => d1
    | false => d) :: backD vs (k + 1) r1 r
  | _, _, r => r
theorem wipeD_len (ρ : Ev) : ∀ vs : List Nat, (wipeD ρ vs).length = ρ.length
  | [] => rfl
  | v :: vs => by unfold wipeD; rw [List.length_set, wipeD_len ρ vs]
theorem wipeD_sl {ρ : Ev} {i : Nat} {d : D} : ∀ {vs : List Nat}, sl (wipeD ρ vs) i = some d → sl ρ i = some d ∧ i ∉ vs
  | [], h => ⟨h, by simp⟩
  | v :: vs, h => by
    unfold wipeD at h
    by_cases c : i = v
    · subst c
      have hl := sl_lt h
      rw [List.length_set] at hl
      rw [sl_set _ _ _ hl] at h
      cases h
    · rw [sl_set_ne _ _ _ _ c] at h
      have := wipeD_sl h
      exact ⟨this.1, by simp [c, this.2]⟩
theorem backD_len (vs : List Nat) : ∀ (k : Nat) (a b : Ev), (backD vs k a b).length = b.length
  | _, [], [] => rfl
  | _, [], _ :: _ => rfl
  | _, _ :: _, [] => rfl
  | k, d1 :: r1, d :: r => by simp [backD, backD_len vs (k + 1) r1 r]
theorem backD_sl (vs : List Nat) : ∀ (k : Nat) (a b : Ev) (i : Nat) (d : D), a.length = b.length → sl (backD vs k a b) i = some d → (k + i ∈ vs ∧ sl a i = some d) ∨ (k + i ∉ vs ∧ sl b i = some d)
  | _, [], [], i, d, _, h => by cases h
  | _, [], _ :: _, i, d, e, h => by cases e
  | _, _ :: _, [], i, d, e, h => by cases e
  | k, d1 :: r1, d' :: r, 0, d, e, h => by
    simp only [backD, sl] at h ⊢
    cases c : vs.contains k with
    | true => rw [c] at h; exact .inl ⟨by simpa using c, h⟩
    | false => rw [c] at h; exact .inr ⟨by simpa using c, h⟩
  | k, d1 :: r1, d' :: r, i + 1, d, e, h => by
    have := backD_sl vs (k + 1) r1 r i d (by simpa using e) h
    rw [show k + (i + 1) = k + 1 + i by omega]
    exact this
theorem backD_at (vs : List Nat) : ∀ (k : Nat) (a b : Ev) (i : Nat), a.length = b.length → sl (backD vs k a b) i = if k + i ∈ vs then sl a i else sl b i
  | _, [], [], i, _ => by simp [backD, sl]
  | _, [], _ :: _, i, e => by cases e
  | _, _ :: _, [], i, e => by cases e
  | k, d1 :: r1, d' :: r, 0, e => by
    simp only [backD, sl]
    cases c : vs.contains k with
    | true => rw [if_pos (by simpa using c)]
    | false => rw [if_neg (by simpa using c)]
  | k, d1 :: r1, d' :: r, i + 1, e => by
    rw [show k + (i + 1) = k + 1 + i by omega]
    exact backD_at vs (k + 1) r1 r i (by simpa using e)
theorem wipeD_out {ρ : Ev} {i : Nat} : ∀ {vs : List Nat}, i ∉ vs → sl (wipeD ρ vs) i = sl ρ i
  | [], _ => rfl
  | v :: vs, h => by
    unfold wipeD
    rw [sl_set_ne _ _ _ _ (fun z => h (by simp [z])), wipeD_out (fun z => h (by simp [z]))]
theorem wipe_get {σ : St} {i : Nat} : ∀ {vs : List Nat}, i ∈ vs → (wipe σ vs)[i]? = if i < σ.length then some none else none
  | [], h => by cases h
  | v :: vs, h => by
    unfold wipe
    by_cases c : v = i
    · subst c
      rw [List.getElem?_set]
      simp [wipe_length]
    · rw [List.getElem?_set_ne c]
      exact wipe_get (by simpa [Ne.symm c] using h)
theorem wipe_eq {σ τ : St} {vs : List Nat} (hl : σ.length = τ.length) (h : ∀ i, i ∉ vs → σ[i]? = τ[i]?) : wipe σ vs = wipe τ vs := by
  apply List.ext_getElem?
  intro i
  by_cases c : i ∈ vs
  · rw [wipe_get c, wipe_get c, hl]
  · rw [wipe_out c, wipe_out c]; exact h i c
theorem setAllV_len : ∀ (is : List Nat) (us : List V) (σ : St), (setAllV is us σ).length = σ.length
  | [], us, σ => by simp only [setAllV]
  | _ :: _, [], σ => by simp only [setAllV]
  | i :: is, u :: us, σ => by simp only [setAllV]; rw [setAllV_len is us]; simp
theorem setAllV_ne : ∀ (is : List Nat) (us : List V) (σ : St) (j : Nat), j ∉ is → (setAllV is us σ)[j]? = σ[j]?
  | [], us, σ, j, _ => by simp only [setAllV]
  | _ :: _, [], σ, j, _ => by simp only [setAllV]
  | i :: is, u :: us, σ, j, h => by
    simp only [setAllV]
    rw [setAllV_ne is us _ j (fun z => h (by simp [z])), List.getElem?_set_ne (fun z => h (by simp [z]))]
theorem Rs.wipe {M : Fx} {G H : Hp} {σ : St} {ρ : Ev} {vs : List Nat} (R : Rs cf M G H σ ρ) (hv : ∀ i ∈ vs, i ∉ cf.O) : Rs cf M G H (wipe σ vs) (wipeD ρ vs) := by
  refine ⟨R.same, R.mem, by rw [wipe_length, wipeD_len]; exact R.len, fun i d hi e => ?_, fun i d hi e => ?_, fun i j d e a hi hj z1 z2 q1 q2 => ?_, fun i a e => ?_, R.tab⟩
  · obtain ⟨e1, e2⟩ := wipeD_sl e
    rw [wipe_out e2]
    exact R.imm i d hi e1
  · obtain ⟨e1, e2⟩ := wipeD_sl e
    rw [wipe_out e2]
    exact R.own i d hi e1
  · exact R.dis i j d e a hi hj (wipeD_sl z1).1 (wipeD_sl z2).1 (by rw [wipe_out (wipeD_sl z1).2] at q1; exact q1) (by rw [wipe_out (wipeD_sl z2).2] at q2; exact q2)
  · obtain ⟨h1, h2, h3⟩ := R.par i a e
    exact ⟨h1, h2, by rw [wipe_out (fun z => hv i z h1)]; exact h3⟩
/-- back behind a comprehension -/
theorem Rs.back {M : Fx} {G G' H H' : Hp} {σ σ2 : St} {ρ ρ2 : Ev} {vs : List Nat} (R : Rs cf M G H σ ρ) (s : Same G G') (R2 : Rs cf M G' H' σ2 ρ2) (hw : L2.wipe σ2 vs = L2.wipe σ vs) (hv : ∀ i ∈ vs, i ∉ cf.O) : Rs cf M G' H' σ (backD vs 0 ρ ρ2) := by
  have hl : σ2.length = σ.length := by rw [← wipe_length σ2 vs, hw, wipe_length]
  have hlr : ρ.length = ρ2.length := by rw [← R.len, ← R2.len, hl]
  have hσ : ∀ i, i ∉ vs → σ2[i]? = σ[i]? := fun i hi => by rw [← wipe_out (σ := σ2) hi, hw, wipe_out hi]
  have sp : ∀ i d, sl (backD vs 0 ρ ρ2) i = some d → (i ∈ vs ∧ sl ρ i = some d) ∨ (i ∉ vs ∧ sl ρ2 i = some d) := fun i d e => by
    have := backD_sl vs 0 ρ ρ2 i d hlr e
    simpa using this
  have on : ∀ i d, i ∈ cf.O → sl (backD vs 0 ρ ρ2) i = some d → i ∉ vs ∧ sl ρ2 i = some d := fun i d hi e => by
    rcases sp i d e with z | z
    · exact absurd hi (hv i z.1)
    · exact z
  refine ⟨R2.same, R2.mem, by rw [backD_len, ← R2.len, hl], fun i d hi e => ?_, fun i d hi e => ?_, fun i j d e a hi hj z1 z2 q1 q2 => ?_, fun i a e => ?_, R2.tab⟩
  · rcases sp i d e with ⟨_, z⟩ | ⟨n, z⟩
    · obtain ⟨v, h1, h2⟩ := R.imm i d hi z
      exact ⟨v, h1, h2.up s⟩
    · rw [← hσ i n]
      exact R2.imm i d hi z
  · obtain ⟨n, z⟩ := on i d hi e
    rw [← hσ i n]
    exact R2.own i d hi z
  · obtain ⟨n1, w1⟩ := on i d hi z1
    obtain ⟨n2, w2⟩ := on j e hj z2
    exact R2.dis i j d e a hi hj w1 w2 (by rw [hσ i n1]; exact q1) (by rw [hσ j n2]; exact q2)
  · obtain ⟨h1, h2, h3⟩ := R2.par i a e
    exact ⟨h1, h2, by rw [← hσ i (fun z => hv i z h1)]; exact h3⟩
def lcGo (g : AG) (tt : AT) (te : AE) (vs : List Nat) : List D → Ev → (List D → Ev → Prop) → Prop
  | [], ρ, P => P [] ρ
  | d :: ds, ρ, P => g d (wipeD ρ vs) fun ρ1 => tt ρ1 (fun b ρ2 => if b = true then te ρ2 (fun e ρ3 => lcGo g tt te vs ds ρ3 fun es ρ4 => P (e :: es) ρ4) NX else lcGo g tt te vs ds ρ2 P) NX
def aLc (i : AI) (g : AG) (tt : AT) (te : AE) (vs : List Nat) : AE := fun ρ P X => i ρ (fun ds ρ1 => ds.length < sizeLine ∧ lcGo g tt te vs ds ρ1 fun es ρ2 => P (.lst es) (backD vs 0 ρ1 ρ2)) X
theorem lc_ok {i : AI} {t : Tg} {tt : AT} {te : AE} {vs : List Nat} (hv : ∀ i ∈ vs, i ∉ cf.O) (ht : ∀ i ∈ t.sl, i ∈ vs) : ∀ σ H Q, γF cf W (aLc i t.a tt te vs) σ H Q → tLc (γI cf W i) (t.c cf.K) (γT cf W0 tt) (γE cf W0 te) vs σ H Q := by
  rintro σ H Q ⟨M, G, ρ, P, Xp, R, q, w, h⟩
  refine ⟨M, G, ρ, _, Xp, R, fun ds ρ1 J G1 H1 s1 R1 it h1 => ?_, w, h⟩
  obtain ⟨hds, h1⟩ := h1
  intro Da nD
  have mD := R1.mfree nD
  refine ⟨fun i m H => m = ds.length - i ∧ i ≤ ds.length ∧ ∃ G' ρ' us es, Same G1 G' ∧ Rs cf (M.up Da (.lst us)) G' H (L2.wipe σ vs) (wipeD ρ' vs) ∧ Rps cf.K cf.cl G' us es ∧ us.length ≤ i ∧ ρ'.length = ρ1.length ∧
    lcGo t.a tt te vs (ds.drop i) ρ' fun rest ρ4 => P (.lst (es ++ rest)) (backD vs 0 ρ1 ρ4), ⟨_, rfl, Nat.zero_le _, G1, ρ1, [], [], Same.refl _, (R1.pin nD).wipe hv, .nil, Nat.le_refl _, rfl, h1⟩, ?_⟩
  rintro i m H2 ⟨rfl, hi, G2, ρ2, us, es, s2, R2, ru, hul, hρ, h2⟩
  obtain ⟨go, st⟩ := it _ G2 H2 _ _ s2 R2
  by_cases c : i < ds.length
  · obtain ⟨g1, g2⟩ := go i c
    refine .inr ⟨g1, fun H => ∃ G' ρ' us es, Same G1 G' ∧ Rs cf (M.up Da (.lst us)) G' H (L2.wipe σ vs) (wipeD ρ' vs) ∧ Rps cf.K cf.cl G' us es ∧ us.length ≤ i + 1 ∧ ρ'.length = ρ1.length ∧
      lcGo t.a tt te vs (ds.drop (i + 1)) ρ' fun rest ρ4 => P (.lst (es ++ rest)) (backD vs 0 ρ1 ρ4), fun H' z => ⟨_, by omega, rfl, c, z⟩, fun x H3 y => ?_⟩
    obtain ⟨d, G3, e3, s3, R3, r3⟩ := g2 x H3 y
    have ed : ds.drop i = d :: ds.drop (i + 1) := by
      obtain ⟨hl, e4⟩ := List.getElem?_eq_some_iff.mp e3
      rw [← e4]
      exact List.drop_eq_getElem_cons hl
    rw [ed] at h2
    refine tg_ok (fun j hj => hv j (ht j hj)) R3 r3 (fun vs' σ4 ρ4 hl4 e4 R4 h4 => ?_) h2
    have hσ4 : L2.wipe σ4 vs = L2.wipe σ vs := by
      have e5 : L2.wipe σ4 vs = L2.wipe (L2.wipe σ vs) vs := wipe_eq (by rw [e4, setAllV_len]) fun j hj => by rw [e4, setAllV_ne _ _ _ _ (fun z => hj (ht j z))]
      rw [e5]
      exact wipe_eq (wipe_length _ _) fun j hj => wipe_out hj
    have s13 := s2.trans s3
    have wlen : ∀ {G' H' : Hp} {ρ' : Ev} {M' : Fx}, Rs cf M' G' H' σ4 ρ' → ρ'.length = ρ1.length := fun {G' H' ρ' M'} R' => by
      rw [← R'.len, ← R1.len, e4, setAllV_len, wipe_length]
    refine ⟨hσ4, _, G3, ρ4, _, NX, R4, fun b ρ5 G5 H5 s5 R5 h5 => ?_, fun _ _ _ _ _ _ _ _ _ z => z.elim, h4⟩
    cases b with
    | false =>
      exact ⟨G5, ρ5, us, es, s13.trans s5, by rw [← hσ4]; exact R5.wipe hv, (ru.up s3).up s5, by omega, wlen R5, h5⟩
    | true =>
      refine ⟨_, G5, ρ5, _, NX, R5, fun e ρ6 v G6 H6 s6 R6 r6 h6 => ?_, fun _ _ _ _ _ _ _ _ _ z => z.elim, h5⟩
      refine ⟨us, (R6.mem Da _ Fx.up_same).1, by omega, G6, ρ6, us ++ [v], es ++ [e], (s13.trans s5).trans s6, ?_, (((ru.up s3).up s5).up s6).app (.cons r6 .nil), by simp; omega, wlen R6, ?_⟩
      · rw [← hσ4]
        exact (R6.repin (u := .lst (us ++ [v]))).wipe hv
      · simpa using h6
  · have e : i = ds.length := by omega
    subst e
    rw [List.drop_length] at h2
    refine .inl ⟨st, ?_⟩
    have h2 : P (.lst (es ++ [])) (backD vs 0 ρ1 ρ2) := h2
    rw [List.append_nil] at h2
    have hH := (R2.mem Da _ Fx.up_same)
    have ww : L2.wipe (L2.wipe σ vs) vs = L2.wipe σ vs := wipe_eq (wipe_length _ _) fun j hj => wipe_out hj
    have R3 : Rs cf (M.up Da (.lst us)) G2 H2 σ (backD vs 0 ρ1 (wipeD ρ2 vs)) := Rs.back (R1.pin (o := .lst us) nD) s2 R2 ww hv
    have R4 : Rs cf (M.up Da (.lst us)) G2 H2 σ (backD vs 0 ρ1 ρ2) := R3.less (by rw [backD_len, backD_len, wipeD_len]) fun j d z => by
      rw [backD_at vs 0 _ _ _ (by rw [wipeD_len]; exact hρ.symm)]
      rw [backD_at vs 0 _ _ _ hρ.symm] at z
      by_cases c : 0 + j ∈ vs
      · rw [if_pos c] at z ⊢
        exact z
      · rw [if_neg c] at z ⊢
        rw [wipeD_out (by simpa using c)]
        exact z
    exact q _ _ Da _ G2 H2 (s1.trans s2) mD hH.1 R4 (.lst hH.1 ru) h2
theorem f_lc {elt tg iter : Expr} {ifs : List Expr} {scope : Scope} {own : List (Str × Nat)} {pos : Pos} {i : AI} {t : Tg} {tt : AT} {te : AE} (hc : X.calm = true) (hN : X.N.Nodup) (hi : Ei X cf W tg iter i) (ok : BlkOk X.N X.env.scope scope own)
    (hg : ∀ (s : Shared) (H : Hp) (C : Addr) (cl : List (Str × Addr)) (fp : List Addr), PG (X.blk s H scope (compEnvC scope cl C X.env) fp) tg (t.c cf.K)) (ht : ∀ (s : Shared) (H : Hp) (C : Addr) (cl : List (Str × Addr)) (fp : List Addr), PTs (X.blk s H scope (compEnvC scope cl C X.env) fp) ifs (γT cf W0 tt))
    (he : ∀ (s : Shared) (H : Hp) (C : Addr) (cl : List (Str × Addr)) (fp : List Addr), Ee (X.blk s H scope (compEnvC scope cl C X.env) fp) cf W0 elt te) (hv : ∀ i ∈ own.map (·.2), i ∉ cf.O) (hts : ∀ i ∈ t.sl, i ∈ own.map (·.2)) (hs : ∀ x, foldedSetIterable iter X.env x = pure x := by intro _; rfl) :
    Ef X cf W (.ListComp elt [⟨tg, iter, ifs, 0⟩] scope pos) (aLc i t.a tt te (own.map (·.2))) := PE.imp (pe_lc hc hN hi ok hg ht he hs) (lc_ok hv hts)
/-- no tests -/
def tY : AT := fun ρ P _ => P true ρ
theorem ts_nil : PTs X [] (γT cf W tY) := ⟨fun pins s σ H Q I ⟨M, G, ρ, P, Xp, R, q, w, h⟩ => pts_nil.run pins s σ H Q I (q true ρ G H (Same.refl _) R h)⟩
theorem ts_one {c : Expr} {a : AT} (h : Et X cf W c a) : PTs X [c] (γT cf W a) := pts_one h
/-- name = [..], the name a local; the list never changes from here on, or is one's own -/
theorem s_setLc {j : Nat} {y : Str} {py : Pos} {elt tg iter : Expr} {ifs : List Expr} {scope : Scope} {own : List (Str × Nat)} {pos spos : Pos} {i : AI} {t : Tg} {tt : AT} {te : AE} (hc : X.calm = true) (hN : X.N.Nodup) (hy : X.N[j]? = some y) (hyl : X.env.scope.names.lookup y = some .local)
    (hsw : swapsWith (.ListComp elt [⟨tg, iter, ifs, 0⟩] scope pos) (some (.Name y py)) spos.line X.env = pure true) (hO : j ∉ cf.O) (hi : Ei X cf W tg iter i) (ok : BlkOk X.N X.env.scope scope own)
    (hg : ∀ (s : Shared) (H : Hp) (C : Addr) (cl : List (Str × Addr)) (fp : List Addr), PG (X.blk s H scope (compEnvC scope cl C X.env) fp) tg (t.c cf.K)) (ht : ∀ (s : Shared) (H : Hp) (C : Addr) (cl : List (Str × Addr)) (fp : List Addr), PTs (X.blk s H scope (compEnvC scope cl C X.env) fp) ifs (γT cf W0 tt))
    (he : ∀ (s : Shared) (H : Hp) (C : Addr) (cl : List (Str × Addr)) (fp : List Addr), Ee (X.blk s H scope (compEnvC scope cl C X.env) fp) cf W0 elt te) (hv : ∀ i ∈ own.map (·.2), i ∉ cf.O) (hts : ∀ i ∈ t.sl, i ∈ own.map (·.2)) (hs : ∀ x, foldedSetIterable iter X.env x = pure x := by intro _; rfl) :
    Es X cf W (.Assign [.Name y py] (.ListComp elt [⟨tg, iter, ifs, 0⟩] scope pos) spos) (sSet j (aLc i t.a tt te (own.map (·.2)))) := PS.imp (ps_setLc hc hN hy hyl hsw hi ok hg ht he hs) fun Dn σ H ⟨M, G, ρ, A, R, q, h⟩ =>
  lc_ok hv hts σ H _ ⟨M, G, ρ, _, A.ex, R, QE.qf fun d ρ1 v G1 H1 s1 R1 rd h1 => q.nx _ _ G1 H1 s1 (R1.set hO rd) h1, q.ex σ, h⟩
end
end Al

/-! AL4: defs, calls, methods, making. -/
namespace Al
open PySem PySem.Spec PyProof.Rows L2 Cr
/-! ### a def runs -/
def RunR (X : Cx) (f : Addr) (sp : Sp) (W : WX) : Prop := ∀ (pins : List (Addr × Obj)) (σ : L2.St) (H : Hp) (s : Shared) (Q : VK) (us : List Value) (vs : List V), Inv X pins σ H s → Vals vs us → sp vs H Q (WE W σ) → wpAny (model X.prog X.w) X.A (call (.ref f) us) (EP X pins σ Q) X.xe s
section
variable {X : Cx} {CX : CXT} {k : Nat} {f C : Addr} {fd : FuncData} {ps : List Str} {sp : Sp} {W : WX} {x m : Str} {p pos apos : Pos} {e o : Expr} {es : List Expr} {ta : TE} {t : TA}
theorem at00 (σ : L2.St) {E : XK} : PassesAt CX0 X σ E := fun _ _ _ _ _ _ c => c.elim
theorem atN {P : Program} {w : World} (σ : L2.St) : PassesAt (L2.CX P w) X σ (WE W0 σ) := fun _ _ _ _ _ _ h => by
  obtain ⟨_, _, _, _, _, _, _, _, _, _, _, _, h⟩ := h
  exact h.elim
theorem runOk (F : FnOk X.prog X.w X.K X.mg X.base CX k f fd ps sp) (hr : Room k X.A) (hb : Binds X.K fd ps []) (hx : ∀ σ, PassesAt CX X σ (WE W σ)) : RunR X f sp W := fun pins σ H s Q us vs I r h => run_fnS (E := WE W) F hr hb (hx σ) I r h
theorem runG (F : FnG X.prog X.w X.K X.mg X.base CX k f fd ps sp) (hr : Room k X.A) (gd : X.A.guards = some []) (hb : Binds X.K fd ps []) (hx : ∀ σ, PassesAt CX X σ (WE W σ)) : RunR X f sp W := fun pins σ H s Q us vs I r h => by
  have hl : us.length = ps.length := r.length.symm.trans (F.len _ _ _ _ h)
  have e := I.env0
  have b := hb s us I.kIn (by rw [List.append_nil]; exact hl)
  rw [List.append_nil] at b
  refine wpAny_call (codeAny_mono (F.run X.A X.stack s H ⟨us, []⟩ us vs Q _ hr gd e b r h) fun r s' q => ?_)
  match r, q with
  | .error e, q => exact hx σ pins H s e s' I q
  | .ok (.ret u), q => exact I.after q
def tRun (sp : Sp) (W : WX) (t : TA) : TE := fun σ H Q => t σ H fun vs H1 => sp vs H1 Q (WE W σ)
theorem pe_run (R : RunR X f sp W) (hg : Gl X x) (hm : X.mg x = some (.ref f)) (hk : PySem.W.keepIn X.K (.ref f) = true) (ha : PA X (e :: es) t) (hdb : (x == ("__debug__" : Str)) = false := by decide) (he : starEach (e :: es) X.env = (false, eval e X.env) :: starEach es X.env := by rfl) (hpl : (backTo pos (starEach es X.env)).any (·.1) = false := by rfl) :
    PE X (.Call (.Name x p) (e :: es) [] pos) (tRun sp W t) := by
  refine ⟨fun pins s σ H Q I h => ?_⟩
  refine wpAny_Call_Name_kw (ld_glob I hg hm ?_ hdb)
  refine PySem.W.callWith_K (h₀ := X.base) I.ok.mod.kin hk (thn (ha.run pos pins s σ H _ I h) fun us s1 ⟨vs, H1, I1, r, q⟩ => ⟨I1.kIn, ?_⟩) he hpl
  exact R pins σ H1 s1 Q us vs I1 r q
/-- making -/
def RunM (X : Cx) (C : Addr) (sp : Sp) (W : WX) : Prop := ∀ (pins : List (Addr × Obj)) (σ : L2.St) (H : Hp) (s : Shared) (Q : VK) (us : List Value) (vs : List V), Inv X pins σ H s → Vals vs us →
  (∀ x dx, H x = none → H dx = none → dx ≠ x → sp (.ref x :: vs) (upd (upd H dx (.own x)) x (.ins C dx [])) (fun v H2 => v = .non ∧ Q (.ref x) H2) (WE W σ)) → wpAny (model X.prog X.w) X.A (call (.ref C) us) (EP X pins σ Q) X.xe s
theorem runMk (M : Mk X.K C f) (F : FnOk X.prog X.w X.K X.mg X.base CX k f fd ps sp) (hr : Room (k + 1) X.A) (hb : Binds X.K fd ps []) (hx : ∀ σ, PassesAt CX X σ (WE W σ)) : RunM X C sp W := fun pins σ H s Q us vs I r h => by
  have hq := h (s.heap.objs.size + 1) s.heap.objs.size (I.hok.fresh (Nat.le_succ _)) (I.hok.fresh (Nat.le_refl _)) (Nat.ne_of_lt (Nat.lt_succ_self _))
  have I2 := Inv.made (C := C) I
  have r2 : Vals (V.ref (s.heap.objs.size + 1) :: vs) (Value.ref (s.heap.objs.size + 1) :: us) := .cons rfl r
  have hl : (Value.ref (s.heap.objs.size + 1) :: us).length = ps.length := by
    have e := r2.length
    rw [F.len _ _ _ _ hq] at e
    exact e.symm
  have b := hb _ (Value.ref (s.heap.objs.size + 1) :: us) I2.kIn (by rw [List.append_nil]; exact hl)
  rw [List.append_nil] at b
  refine wpAny_call (make_map (f := f) I.kIn M.makes M.init (beq_iff_eq.mp M.fn) (codeAny_mono (F.run _ X.stack _ _ ⟨Value.ref (s.heap.objs.size + 1) :: us, []⟩ (Value.ref (s.heap.objs.size + 1) :: us) _ _ _ (hr.make C us [])
    (I2.env0.make C us []) b r2 hq) fun r s' hq' => ?_))
  cases r with
  | error e => exact hx σ pins _ _ e s' I2 hq'
  | ok fl =>
    cases fl with
    | ret u =>
      obtain ⟨v, H', I3, rv, ev, q3⟩ := I2.after hq'
      subst ev
      exact ⟨rv, ⟨V.ref (s.heap.objs.size + 1), H', I3, rfl, q3⟩⟩
    | next => exact False.elim hq'
    | brk => exact False.elim hq'
    | cont => exact False.elim hq'
def tRunC (C : Addr) (sp : Sp) (W : WX) (t : TA) : TE := fun σ H Q => t σ H fun vs H1 => ∀ x dx, H1 x = none → H1 dx = none → dx ≠ x →
  sp (.ref x :: vs) (upd (upd H1 dx (.own x)) x (.ins C dx [])) (fun v H2 => v = .non ∧ Q (.ref x) H2) (WE W σ)
theorem pe_runC (R : RunM X C sp W) (hg : Gl X x) (hm : X.mg x = some (.ref C)) (hk : PySem.W.keepIn X.K (.ref C) = true) (ha : PA X (e :: es) t) (hdb : (x == ("__debug__" : Str)) = false := by decide) (he : starEach (e :: es) X.env = (false, eval e X.env) :: starEach es X.env := by rfl) (hpl : (backTo pos (starEach es X.env)).any (·.1) = false := by rfl) :
    PE X (.Call (.Name x p) (e :: es) [] pos) (tRunC C sp W t) := by
  refine ⟨fun pins s σ H Q I h => ?_⟩
  refine wpAny_Call_Name_kw (ld_glob I hg hm ?_ hdb)
  refine PySem.W.callWith_K (h₀ := X.base) I.ok.mod.kin hk (thn (ha.run pos pins s σ H _ I h) fun us s1 ⟨vs, H1, I1, r, q⟩ => ⟨I1.kIn, ?_⟩) he hpl
  exact R pins σ H1 s1 Q us vs I1 r q
end
/-! ### promises over plain values -/
abbrev AF := List D → (D → List D → Prop) → XP → Prop
abbrev AF0 := List D → (D → Prop) → XP → Prop
abbrev AFo := D → List D → (D → D → Prop) → XP → Prop
def af0 (F : AF0) : AF := fun ds P X => F ds (fun d => P d ds) X
def afo (F : AFo) : AF := fun ds P X => match ds with
  | o :: r => F o r (fun d o' => P d (o' :: r)) X
  | [] => False
def NoPi (m : Hp) : Fx := ⟨m, fun _ => none⟩
def pi0 (a0 : Addr) : Nat → Option Addr
  | 0 => some a0
  | _ + 1 => none
def Lift0 (cf : Cf) (F : AF) : Sp := fun vs H Q E => ∃ (m G : Hp) (ds : List D) (P : D → List D → Prop) (X : XP), Rs cf (NoPi m) G H (vs.map some) (ds.map some) ∧ F ds P X ∧
  (∀ d ds' v G' H', Same G G' → Rs cf (NoPi m) G' H' (vs.map some) (ds'.map some) → Rp cf.K cf.cl G' v d → P d ds' → Q v H') ∧
  ∀ x cls dx G' H', Same G G' → Same G' H' → (∀ b o, m b = some o → H' b = some o ∧ G' b = none) → XR cf.K cf.cl G' cls dx x → X x → E cls dx H'
def Lift (cf : Cf) (F : AF) : Sp := Lift0 cf.noT F
theorem Lift.to0 {cf : Cf} {F : AF} {vs : List V} {H : Hp} {Q : VK} {E : XK} (hT : cf.T = []) (h : Lift cf F vs H Q E) : Lift0 cf F vs H Q E := by
  unfold Lift at h
  rwa [Cf.noT_eq hT] at h
theorem Lift.len {cf : Cf} {F : AF} {n : Nat} (h : ∀ ds P X, F ds P X → ds.length = n) (vs : List V) (H : Hp) (Q : VK) (E : XK) (l : Lift cf F vs H Q E) : vs.length = n := by
  obtain ⟨m, G, ds, P, X, R, hF, _⟩ := l
  have := R.len
  rw [List.length_map, List.length_map] at this
  rw [this]
  exact h ds P X hF
theorem sl_map : ∀ (ds : List D) (i : Nat), sl (ds.map some) i = ds[i]?
  | [], i => by simp [sl]
  | d :: r, 0 => by simp [sl]
  | d :: r, i + 1 => by simp only [List.map_cons, sl, List.getElem?_cons_succ]; exact sl_map r i
theorem sl_pad : ∀ (ρ : Ev) (k i : Nat), sl (ρ ++ List.replicate k none) i = sl ρ i
  | [], 0, i => by simp [sl]
  | [], k + 1, 0 => by simp [sl, List.replicate_succ]
  | [], k + 1, i + 1 => by
    have := sl_pad [] k i
    simp only [List.nil_append] at this
    simp only [List.nil_append, List.replicate_succ, sl]
    exact this
  | d :: r, k, 0 => rfl
  | d :: r, k, i + 1 => sl_pad r k i
theorem Rs.start {cf : Cf} {m G H : Hp} {vs : List V} {ds : List D} {N : List Str} {k : Nat} (R : Rs cf (NoPi m) G H (vs.map some) (ds.map some)) (hk : N.length - vs.length = k) : Rs cf (NoPi m) G H (L2.start N vs) (ds.map some ++ List.replicate k none) := by
  have hl := R.len
  have look : ∀ i d, sl (ds.map some ++ List.replicate k none) i = some d → sl (ds.map some) i = some d ∧ (L2.start N vs)[i]? = (vs.map some)[i]? := fun i d e => by
    rw [sl_pad] at e
    have hi := sl_lt e
    refine ⟨e, ?_⟩
    unfold L2.start
    rw [List.getElem?_append_left (by rw [hl]; exact hi)]
  refine ⟨R.same, R.mem, by unfold L2.start; rw [hk]; simp only [List.length_append, List.length_replicate]; rw [hl], fun i d hi e => ?_, fun i d hi e => ?_, fun i j d e a hi hj z1 z2 q1 q2 => ?_, fun i a e => (nomatch e), R.tab⟩
  · obtain ⟨e1, e2⟩ := look i d e
    rw [e2]
    exact R.imm i d hi e1
  · obtain ⟨e1, e2⟩ := look i d e
    rw [e2]
    exact R.own i d hi e1
  · obtain ⟨a1, a2⟩ := look i d z1
    obtain ⟨b1, b2⟩ := look j e z2
    rw [a2] at q1
    rw [b2] at q2
    exact R.dis i j d e a hi hj a1 b1 q1 q2
/-- a def's end: of a pure one; of one whose first parameter is changed in place -/
def endP (P : D → Prop) (X : XP) : AK := ⟨fun _ => P .non, fun d _ => P d, fun _ => False, fun _ => False, X⟩
def at0s (ρ : Ev) (k : D → Prop) : Prop := match sl ρ 0 with
  | some o => k o
  | none => False
def endO (P : D → D → Prop) (X : XP) : AK := ⟨fun ρ => at0s ρ (P .non), fun d ρ => at0s ρ (P d), fun _ => False, fun _ => False, X⟩
theorem at0s_of {ρ : Ev} {k : D → Prop} (h : at0s ρ k) : ∃ o, sl ρ 0 = some o ∧ k o := by
  unfold at0s at h
  cases e : sl ρ 0 with
  | none => rw [e] at h; exact h.elim
  | some o => rw [e] at h; exact ⟨o, rfl, h⟩
section
variable {X : Cx} {cf cg : Cf} {W : WX}
theorem body0 {E : XK} {H : Hp} {vs : List V} {Q : VK} {F : AF0} {N : List Str} {k n : Nat} {s : AS} (hlen : ∀ ds P X, F ds P X → ds.length = n) (hF : ∀ ds P X, F ds P X → s (endP P X) (ds.map some ++ List.replicate k none)) (hk : N.length - n = k) (hp : ∀ i ∈ cf.O, n ≤ i)
    (h : Lift cf (af0 F) vs H Q E) (hT : cf.T = [] := by rfl) : γS cf (fun cls d _ H => E cls d H) s { nx := fun _ H' => Q .non H', rt := Q } (start N vs) H := by
  have h := h.to0 hT
  obtain ⟨m, G, ds, P, Xp, R, hf, q, qx⟩ := h
  have hd : ds.length = n := hlen ds _ _ hf
  have hl : vs.length = n := by
    have := R.len
    rw [List.length_map, List.length_map] at this
    rw [this]; exact hd
  have R2 := R.start (N := N) (k := k) (by rw [hl]; exact hk)
  have hO : ∀ i d, i ∈ cf.O → sl (ds.map some) i = some d → False := fun i d hi e => by
    have := sl_lt e
    rw [List.length_map, hd] at this
    have := hp i hi
    omega
  have back : ∀ {σ : L2.St} {ρ : Ev} {G' H' : Hp}, Same G G' → Rs cf (NoPi m) G' H' σ ρ → Rs cf (NoPi m) G' H' (vs.map some) (ds.map some) := fun s1 R1 =>
    ⟨R1.same, R1.mem, R.len, fun i d hi e => (by obtain ⟨v, e1, e2⟩ := R.imm i d hi e; exact ⟨v, e1, e2.up s1⟩), fun i d hi e => (hO i d hi e).elim, fun i j d e a hi hj z1 => (hO i d hi z1).elim, fun i a e => (nomatch e), TabOk.nil' hT⟩
  exact ⟨NoPi m, G, _, endP (fun d => P d ds) Xp, R2, ⟨fun σ ρ G' H' s1 R1 h1 => q .non ds .non G' H' s1 (back s1 R1) .non h1, fun σ ρ G' H' v d s1 R1 rd h1 => q d ds v G' H' s1 (back s1 R1) rd h1, fun _ _ _ _ _ _ z => z.elim, fun _ _ _ _ _ _ z => z.elim, fun σ x cls dx G' H' s1 s2 hm xr hx => qx x cls dx G' H' s1 s2 hm.1 xr hx⟩, hF ds _ _ hf⟩
theorem bodyN {E : XK} {H : Hp} {vs : List V} {Q : VK} {F : AF0} {N : List Str} {k n : Nat} {s : AS} (hlen : ∀ ds P X, F ds P X → ds.length = n) (hF : ∀ ds P X, F ds P X → s (endP P NX) (ds.map some ++ List.replicate k none)) (hk : N.length - n = k) (hp : ∀ i ∈ cf.O, n ≤ i)
    (h : Lift cf (af0 F) vs H Q E) (hT : cf.T = [] := by rfl) : γS cf W s { nx := fun _ H' => Q .non H', rt := Q } (start N vs) H := by
  have h := h.to0 hT
  obtain ⟨m, G, ds, P, Xp, R, hf, q, qx⟩ := h
  have hd : ds.length = n := hlen ds _ _ hf
  have hl : vs.length = n := by
    have := R.len
    rw [List.length_map, List.length_map] at this
    rw [this]; exact hd
  have R2 := R.start (N := N) (k := k) (by rw [hl]; exact hk)
  have hO : ∀ i d, i ∈ cf.O → sl (ds.map some) i = some d → False := fun i d hi e => by
    have := sl_lt e
    rw [List.length_map, hd] at this
    have := hp i hi
    omega
  have back : ∀ {σ : L2.St} {ρ : Ev} {G' H' : Hp}, Same G G' → Rs cf (NoPi m) G' H' σ ρ → Rs cf (NoPi m) G' H' (vs.map some) (ds.map some) := fun s1 R1 =>
    ⟨R1.same, R1.mem, R.len, fun i d hi e => (by obtain ⟨v, e1, e2⟩ := R.imm i d hi e; exact ⟨v, e1, e2.up s1⟩), fun i d hi e => (hO i d hi e).elim, fun i j d e a hi hj z1 => (hO i d hi z1).elim, fun i a e => (nomatch e), TabOk.nil' hT⟩
  exact ⟨NoPi m, G, _, endP (fun d => P d ds) NX, R2, ⟨fun σ ρ G' H' s1 R1 h1 => q .non ds .non G' H' s1 (back s1 R1) .non h1, fun σ ρ G' H' v d s1 R1 rd h1 => q d ds v G' H' s1 (back s1 R1) rd h1, fun _ _ _ _ _ _ z => z.elim, fun _ _ _ _ _ _ z => z.elim, fun σ x cls dx G' H' s1 s2 hm xr hx => hx.elim⟩, hF ds _ _ hf⟩
theorem bodyON {E : XK} {H : Hp} {vs : List V} {Q : VK} {F : AFo} {N : List Str} {k n : Nat} {s : AS} (hlen : ∀ o ds P X, F o ds P X → ds.length + 1 = n) (hF : ∀ o ds P X, F o ds P X → s (endO P NX) ((o :: ds).map some ++ List.replicate k none)) (hk : N.length - n = k) (h0 : 0 ∈ cf.O) (hp : ∀ i ∈ cf.O, i = 0 ∨ n ≤ i) (hn : 0 < cf.np)
    (h : Lift cf (afo F) vs H Q E) (hT : cf.T = [] := by rfl) : γS cf W s { nx := fun _ H' => Q .non H', rt := Q } (start N vs) H := by
  have h := h.to0 hT
  obtain ⟨m, G, dss, P, Xp, R, hf, q, qx⟩ := h
  cases dss with
  | nil => exact hf.elim
  | cons o ds =>
  have hf : F o ds (fun d o' => P d (o' :: ds)) Xp := hf
  have hd : ds.length + 1 = n := hlen o ds _ _ hf
  have hl : vs.length = n := by
    have := R.len
    rw [List.length_map, List.length_map] at this
    rw [this]; exact hd
  obtain ⟨a0, v0, g0, m0, r0⟩ := R.own 0 o h0 rfl
  have R2 := R.start (N := N) (k := k) (by rw [hl]; exact hk)
  have v1 : (start N vs)[0]? = some (some (.ref a0)) := by
    unfold L2.start
    rw [List.getElem?_append_left (by rw [List.length_map]; omega)]
    exact v0
  have R3 : Rs cf ⟨m, pi0 a0⟩ G H (start N vs) ((o :: ds).map some ++ List.replicate k none) := ⟨R2.same, R2.mem, R2.len, R2.imm, R2.own, R2.dis, fun i a e => (by
    cases i with
    | zero => cases e; exact ⟨h0, hn, v1⟩
    | succ i => cases e), TabOk.nil' hT⟩
  have hO : ∀ (o' : D) i d, i ∈ cf.O → sl ((o' :: ds).map some) i = some d → i = 0 ∧ d = o' := fun o' i d hi e => by
    have := sl_lt e
    rw [List.length_map, List.length_cons, hd] at this
    have : i = 0 := by have := hp i hi; omega
    subst this
    cases e
    exact ⟨rfl, rfl⟩
  have back : ∀ {σ : L2.St} {ρ : Ev} {G' H' : Hp} {o' : D}, Same G G' → Rs cf ⟨m, pi0 a0⟩ G' H' σ ρ → sl ρ 0 = some o' → Rs cf (NoPi m) G' H' (vs.map some) ((o' :: ds).map some) := fun {σ ρ G' H' o'} s1 R1 e0 => by
    obtain ⟨a, w1, w2, w3, w4⟩ := R1.own 0 o' h0 e0
    obtain ⟨_, _, p1⟩ := R1.par 0 a0 rfl
    rw [p1] at w1
    cases w1
    refine ⟨R1.same, R1.mem, by simpa using R.len, fun i d hi e => ?_, fun i d hi e => ?_, fun i j d e a hi hj z1 z2 _ _ => ?_, fun i a e => (nomatch e), TabOk.nil' hT⟩
    · have ni : i ≠ 0 := fun c => hi (c ▸ h0)
      obtain ⟨j, rfl⟩ : ∃ j, i = j + 1 := ⟨i - 1, by omega⟩
      obtain ⟨v, e1, e2⟩ := R.imm (j + 1) d hi e
      exact ⟨v, e1, e2.up s1⟩
    · obtain ⟨rfl, rfl⟩ := hO o' i d hi e
      exact ⟨a0, v0, w2, w3, w4⟩
    · rw [(hO o' i d hi z1).1, (hO o' j e hj z2).1]
  refine ⟨_, G, _, endO (fun d o' => P d (o' :: ds)) NX, R3, ⟨fun σ ρ G' H' s1 R1 h1 => ?_, fun σ ρ G' H' v d s1 R1 rd h1 => ?_, fun _ _ _ _ _ _ z => z.elim, fun _ _ _ _ _ _ z => z.elim, fun σ x cls dx G' H' s1 s2 hm xr hx => hx.elim⟩, hF o ds _ _ hf⟩
  · obtain ⟨o', e, h1⟩ := at0s_of h1
    exact q .non _ .non G' H' s1 (back s1 R1 e) .non h1
  · obtain ⟨o', e, h1⟩ := at0s_of h1
    exact q d _ v G' H' s1 (back s1 R1 e) rd h1
/-! ### calls -/
/-- all but G stays, but for a -/
def outG (G H : Hp) (no : Addr → Prop) [DecidablePred no] : Hp := fun b => if no b then none else match G b with
  | none => H b
  | some _ => none
theorem outG_of {G H : Hp} {no : Addr → Prop} [DecidablePred no] {b : Addr} {o : HO} (h : outG G H no b = some o) : H b = some o ∧ G b = none ∧ ¬ no b := by
  unfold outG at h
  split at h
  · cases h
  · next c =>
    split at h
    · next e => exact ⟨h, e, c⟩
    · cases h
theorem outG_to {G H : Hp} {no : Addr → Prop} [DecidablePred no] {b : Addr} {o : HO} (h : H b = some o) (g : G b = none) (n : ¬ no b) : outG G H no b = some o := by
  unfold outG
  rw [if_neg n, g]
  exact h
theorem tab_after {T : List (Addr × Str)} {M : Fx} {G H G' H' : Hp} {no : Addr → Prop} [DecidablePred no] (t : TabOk T M G H) (s0 : Same G H) (s : Same G G') (s' : Same G' H') (hm : ∀ b o, outG G H no b = some o → H' b = some o ∧ G' b = none) (hN : ∀ b o, H b = some o → ¬ MutO o → ¬ no b) : TabOk T M G' H' :=
  t.after fun b o e n => by
    cases g : G b with
    | none => exact ⟨(hm b o (outG_to e g (hN b o e n))).1, fun _ => (hm b o (outG_to e g (hN b o e n))).2⟩
    | some u =>
      have := s0 _ _ g
      rw [e] at this
      cases this
      exact ⟨s' _ _ (s _ _ g), fun z => nomatch z⟩
/-- the caller's part behind a call -/
theorem Rs.after {M : Fx} {G H G' H' : Hp} {σ : L2.St} {ρ : Ev} {no : Addr → Prop} [DecidablePred no] (R : Rs cf M G H σ ρ) (s : Same G G') (s' : Same G' H') (hm : ∀ b o, outG G H no b = some o → H' b = some o ∧ G' b = none)
    (hM : ∀ b o, M.m b = some o → ¬ no b) (hO : ∀ i d a, i ∈ cf.O → sl ρ i = some d → σ[i]? = some (some (.ref a)) → ¬ no a) (hN : ∀ b o, H b = some o → ¬ MutO o → ¬ no b) : Rs cf M G' H' σ ρ := by
  refine ⟨s', fun b o e => ?_, R.len, fun i d hi e => ?_, fun i d hi e => ?_, R.dis, R.par, tab_after R.tab R.same s s' hm hN⟩
  · obtain ⟨h1, h2⟩ := R.mem b o e
    exact hm b o (outG_to h1 h2 (hM b o e))
  · obtain ⟨v, e1, e2⟩ := R.imm i d hi e
    exact ⟨v, e1, e2.up s⟩
  · obtain ⟨a, h1, h2, h3, h4⟩ := R.own i d hi e
    obtain ⟨o, ho⟩ := h4.there
    obtain ⟨k1, k2⟩ := hm a o (outG_to ho h2 (hO i d a hi e h1))
    exact ⟨a, h1, k2, h3, h4.up s (k1.trans ho.symm)⟩
theorem Rps.sl {K : PySem.W.Frag} {cl : Tb} {G : Hp} {vs : List V} {ds : List D} (r : Rps K cl G vs ds) {i : Nat} {d : D} (h : Al.sl (ds.map some) i = some d) : ∃ v, (vs.map some)[i]? = some (some v) ∧ Rp K cl G v d := by
  rw [sl_map] at h
  obtain ⟨v, e, r⟩ := r.getD h
  exact ⟨v, by rw [List.getElem?_map, e]; rfl, r⟩
theorem XW.call {M : Fx} {G H : Hp} {σ : L2.St} {ρ : Ev} {Xp : XP} {no : Addr → Prop} [DecidablePred no] (w : XW cf W M G σ Xp) (R : Rs cf M G H σ ρ) (hM : ∀ b o, M.m b = some o → ¬ no b) (hN : ∀ b o, H b = some o → ¬ MutO o → ¬ no b) (hK : cg.K = cf.K) (hc : cg.cl = cf.cl) :
    ∀ x cls dx G' H', Same G G' → Same G' H' → (∀ b o, outG G H no b = some o → H' b = some o ∧ G' b = none) → XR cg.K cg.cl G' cls dx x → Xp x → WE W σ cls dx H' := fun x cls dx G' H' s1 s2 hm xr hx => by
  rw [hK, hc] at xr
  exact w x cls dx G' H' s1 s2 ⟨fun b o e => hm b o (outG_to (R.mem b o e).1 (R.mem b o e).2 (hM b o e)), tab_after R.tab R.same s1 s2 hm hN⟩ xr hx
def noA : Addr → Prop := fun _ => False
instance : DecidablePred noA := fun _ => isFalse id
theorem lift0 {F : AF0} {M : Fx} {G H : Hp} {σ : L2.St} {ρ : Ev} {P : D → Ev → Prop} {Xp : XP} {Q : VK} {vs : List V} {ds : List D} {n : Nat} (hlen : ∀ ds P X, F ds P X → ds.length = n) (hp : ∀ i ∈ cg.O, n ≤ i) (hK : cg.K = cf.K) (hc : cg.cl = cf.cl)
    (R : Rs cf M G H σ ρ) (r : Rps cf.K cf.cl G vs ds) (q : QE cf M G σ P Q) (w : XW cf W M G σ Xp) (h : F ds (fun d => P d ρ) Xp) : Lift cg (af0 F) vs H Q (WE W σ) := by
  have hd := hlen ds _ _ h
  have hO : ∀ i d, i ∈ cg.O → sl (ds.map some) i = some d → False := fun i d hi e => by
    have := sl_lt e
    rw [List.length_map, hd] at this
    have := hp i hi
    omega
  refine ⟨outG G H noA, G, ds, fun d ds' => P d ρ, Xp, ⟨R.same, fun b o (e : outG G H noA b = some o) => ⟨(outG_of e).1, (outG_of e).2.1⟩, by simp [r.len], fun i d hi e => ?_, fun i d hi e => (hO i d hi e).elim, fun i j d e a hi hj z1 => (hO i d hi z1).elim, fun i a e => (nomatch e), TabOk.nil⟩, h, fun d ds' v G' H' s1 R1 rd hP => ?_, w.call R (fun _ _ _ z => z) (fun _ _ _ _ z => z) hK hc⟩
  · rw [hK, hc]; exact r.sl e
  · rw [hK, hc] at rd
    exact q d ρ v G' H' s1 (R.after (no := noA) s1 R1.same R1.mem (fun _ _ _ z => z) (fun _ _ _ _ _ _ z => z) (fun _ _ _ _ z => z)) rd hP
def aCall (F : AF0) (a : AA) : AE := fun ρ P X => a ρ (fun xs ρ1 => withV xs fun ds => F ds (fun d => P d ρ1) X) X
theorem e_call {f : Addr} {x : Str} {e : Expr} {es : List Expr} {p pos : Pos} {F : AF0} {a : AA} {n : Nat} (Rn : RunR X f (Lift cg (af0 F)) W) (hlen : ∀ ds P X, F ds P X → ds.length = n) (hp : ∀ i ∈ cg.O, n ≤ i) (hg : Gl X x) (hm : X.mg x = some (.ref f)) (hk : PySem.W.keepIn X.K (.ref f) = true) (ha : Ea X cf W (e :: es) a)
    (hK : cg.K = cf.K := by rfl) (hc : cg.cl = cf.cl := by rfl) (hdb : (x == ("__debug__" : Str)) = false := by decide) (he : starEach (e :: es) X.env = (false, eval e X.env) :: starEach es X.env := by rfl) (hpl : (backTo pos (starEach es X.env)).any (·.1) = false := by rfl) :
    Ee X cf W (.Call (.Name x p) (e :: es) [] pos) (aCall F a) := PE.imp (pe_run Rn hg hm hk ha hdb he hpl) fun σ H Q ⟨M, G, ρ, P, Xp, R, q, w, h⟩ => by
  refine ⟨M, G, ρ, _, Xp, R, fun xs ρ1 vs G1 H1 s1 R1 ra h1 => ?_, w, h⟩
  obtain ⟨ds, e, h1⟩ := withV_of h1
  exact lift0 hlen hp hK hc R1 (vals_of ra e) (q.up s1) (w.up s1) h1
/-- o.m(..), o of the class number c -/
def aMeth (c : Nat) (F : AF0) (o : AE) (a : AA) : AE := fun ρ P X => o ρ (fun d ρ1 => match d with
  | .ins c' fs => match Nat.beq c' c with
    | true => a ρ1 (fun xs ρ2 => withV xs fun ds => F (.ins c' fs :: ds) (fun d => P d ρ2) X) X
    | false => False
  | _ => False) X
/-- a def whose first parameter is changed in place, called with a slot of one's own -/
theorem liftO {F : AFo} {M : Fx} {G H : Hp} {σ : L2.St} {ρ : Ev} {P : D → Ev → Prop} {Xp : XP} {Q : VK} {vs : List V} {ds : List D} {n i0 : Nat} {a0 : Addr} {o : D} (hlen : ∀ o ds P X, F o ds P X → ds.length + 1 = n) (h0 : 0 ∈ cg.O) (hp : ∀ i ∈ cg.O, i = 0 ∨ n ≤ i) (hK : cg.K = cf.K) (hc : cg.cl = cf.cl)
    (R : Rs cf M G H σ ρ) (r : Rps cf.K cf.cl G vs ds) (hi : i0 ∈ cf.O) (e0 : sl ρ i0 = some o) (ea : σ[i0]? = some (some (.ref a0))) (q : QE cf M G σ P Q) (w : XW cf W M G σ Xp) (h : F o ds (fun d o' => P d (ρ.set i0 (some o'))) Xp) : Lift cg (afo F) (.ref a0 :: vs) H Q (WE W σ) := by
  have hd := hlen o ds _ _ h
  obtain ⟨a, w1, w2, w3, w4⟩ := R.own i0 o hi e0
  rw [ea] at w1
  cases w1
  have hO : ∀ (o' : D) (ds' : List D) i d, ds'.length = ds.length → i ∈ cg.O → sl ((o' :: ds').map some) i = some d → i = 0 ∧ d = o' := fun o' ds' i d hl hi e => by
    have := sl_lt e
    rw [List.length_map, List.length_cons, hl, hd] at this
    have : i = 0 := by have := hp i hi; omega
    subst this
    cases e
    exact ⟨rfl, rfl⟩
  have hM : ∀ b u, M.m b = some u → ¬ b = a0 := fun b u e c => by rw [c, w3] at e; cases e
  have hN : ∀ b o, H b = some o → ¬ MutO o → ¬ b = a0 := fun b u e n c => by
    obtain ⟨z, hz, mz⟩ := w4.mut
    rw [c, hz] at e
    cases e
    exact n mz
  refine ⟨outG G H (· = a0), G, o :: ds, fun d ds' => ∃ o' , ds' = o' :: ds ∧ P d (ρ.set i0 (some o')), Xp, ⟨R.same, fun b u (e : outG G H (· = a0) b = some u) => ⟨(outG_of e).1, (outG_of e).2.1⟩, by simp [r.len], fun i d hi e => ?_, fun i d hi e => ?_, fun i j d e a hi hj z1 z2 _ _ => ?_, fun i a e => (nomatch e), TabOk.nil⟩, ?_, fun d ds' v G' H' s1 R1 rd hP => ?_, w.call R hM hN hK hc⟩
  · have ni : i ≠ 0 := fun c => hi (c ▸ h0)
    obtain ⟨j, rfl⟩ : ∃ j, i = j + 1 := ⟨i - 1, by omega⟩
    rw [hK, hc]; exact r.sl e
  · obtain ⟨rfl, rfl⟩ := hO o ds i d rfl hi e
    refine ⟨a0, rfl, w2, ?_, by rw [hK, hc]; exact w4⟩
    cases z : outG G H (· = a0) a0 with
    | none => exact z
    | some u => exact absurd rfl (outG_of z).2.2
  · rw [(hO o ds i d rfl hi z1).1, (hO o ds j e rfl hj z2).1]
  · show F o ds (fun d o' => ∃ o'', o' :: ds = o'' :: ds ∧ P d (ρ.set i0 (some o''))) Xp
    have e : (fun d o' => ∃ o'', o' :: ds = o'' :: ds ∧ P d (ρ.set i0 (some o''))) = fun (d : D) (o' : D) => P d (ρ.set i0 (some o')) := by
      funext d o'
      exact propext ⟨fun ⟨o'', e, p⟩ => by cases e; exact p, fun p => ⟨o', rfl, p⟩⟩
    rw [e]; exact h
  · obtain ⟨o', rfl, hP⟩ := hP
    rw [hK, hc] at rd
    obtain ⟨a, x1, x2, x3, x4⟩ := R1.own 0 o' h0 rfl
    cases x1
    rw [hK, hc] at x4
    have R2 : Rs cf M G' H' σ (ρ.set i0 none) := by
      refine (R.less (by simp) fun j d z => ?_).after s1 R1.same R1.mem hM (fun j d a hj z e c => ?_) hN
      · by_cases cj : j = i0
        · rw [cj, sl_set ρ i0 _ (sl_lt e0)] at z; cases z
        · rw [sl_set_ne ρ i0 j _ cj] at z; exact z
      · have cj : j ≠ i0 := fun cj => by rw [cj, sl_set ρ i0 _ (sl_lt e0)] at z; cases z
        rw [sl_set_ne ρ i0 j _ cj] at z
        exact cj (R.dis j i0 d o a0 hj hi z e0 (c ▸ e) ea)
    refine q d _ v G' H' s1 ?_ rd hP
    refine ⟨R2.same, R2.mem, by simpa using R2.len, fun j d hj z => ?_, fun j d hj z => ?_, fun j k d e a hj hk z1 z2 q1 q2 => ?_, R2.par, R2.tab⟩
    · have cj : j ≠ i0 := fun cj => hj (cj ▸ hi)
      rw [sl_set_ne ρ i0 j _ cj] at z
      exact R2.imm j d hj (by rw [sl_set_ne ρ i0 j _ cj]; exact z)
    · by_cases cj : j = i0
      · subst cj
        rw [sl_set ρ j _ (sl_lt e0)] at z
        cases z
        exact ⟨a0, ea, x2, w3, x4⟩
      · rw [sl_set_ne ρ i0 j _ cj] at z
        exact R2.own j d hj (by rw [sl_set_ne ρ i0 j _ cj]; exact z)
    · have up : ∀ j d, sl (ρ.set i0 (some o')) j = some d → ∃ d', sl ρ j = some d' := fun j d z => by
        by_cases cj : j = i0
        · subst cj; exact ⟨o, e0⟩
        · rw [sl_set_ne ρ i0 j _ cj] at z; exact ⟨d, z⟩
      obtain ⟨d', y1⟩ := up j d z1
      obtain ⟨e', y2⟩ := up k e z2
      exact R.dis j k d' e' a hj hk y1 y2 q1 q2
def aCallO (i : Nat) (F : AFo) (a : AA) : AE := fun ρ P X => match sl ρ i with
  | some _ => a ρ (fun xs ρ1 => withV xs fun ds => match sl ρ1 i with
    | some o => F o ds (fun d o' => P d (ρ1.set i (some o'))) X
    | none => False) X
  | none => False
theorem e_callO {f : Addr} {x : Str} {e0 : Expr} {es : List Expr} {p pos : Pos} {i : Nat} {F : AFo} {a : AA} {n : Nat} (Rn : RunR X f (Lift cg (afo F)) W) (hlen : ∀ o ds P X, F o ds P X → ds.length + 1 = n) (h0 : 0 ∈ cg.O) (hp : ∀ i ∈ cg.O, i = 0 ∨ n ≤ i) (hg : Gl X x) (hm : X.mg x = some (.ref f)) (hk : PySem.W.keepIn X.K (.ref f) = true)
    (hv : PE X e0 (tVar i)) (hi : i ∈ cf.O) (ha : Ea X cf W es a) (hs : starEach (e0 :: es) X.env = (false, eval e0 X.env) :: starEach es X.env := by rfl)
    (hK : cg.K = cf.K := by rfl) (hc : cg.cl = cf.cl := by rfl) (hdb : (x == ("__debug__" : Str)) = false := by decide) (hpl : (backTo pos (starEach es X.env)).any (·.1) = false := by rfl) :
    Ee X cf W (.Call (.Name x p) (e0 :: es) [] pos) (aCallO i F a) := PE.imp (pe_run Rn hg hm hk (pa_cons hv ha hs) hdb hs hpl) fun σ H Q ⟨M, G, ρ, P, Xp, R, q, w, h⟩ => by
  unfold aCallO at h
  cases e : sl ρ i with
  | none => rw [e] at h; exact h.elim
  | some d =>
    rw [e] at h
    obtain ⟨a0, w1, _⟩ := R.own i d hi e
    refine ⟨_, w1, M, G, ρ, _, Xp, R, fun xs ρ1 vs G1 H1 s1 R1 ra h1 => ?_, w, h⟩
    obtain ⟨ds, e1, h1⟩ := withV_of h1
    cases e2 : sl ρ1 i with
    | none => rw [e2] at h1; exact h1.elim
    | some o =>
      rw [e2] at h1
      exact liftO hlen h0 hp hK hc R1 (vals_of ra e1) hi e2 w1 (q.up s1) (w.up s1) h1
/-- C(..): the class number c -/
def aMake (c : Nat) (F : AFo) (a : AA) : AE := fun ρ P X => a ρ (fun xs ρ1 => withV xs fun ds => F (.ins c []) ds (fun d o => match d with
  | .non => P o ρ1
  | _ => False) X) X
theorem make_ok {C : Addr} {c n : Nat} {F : AFo} {a : AA} (hlen : ∀ o ds P X, F o ds P X → ds.length + 1 = n) (h0 : 0 ∈ cg.O) (hp : ∀ i ∈ cg.O, i = 0 ∨ n ≤ i) (hK : cg.K = cf.K) (hc : cg.cl = cf.cl) (hC : cf.cl.a c = C) :
    ∀ σ H Q, γF cf W (aMake c F a) σ H Q → tRunC C (Lift cg (afo F)) W (γA cf W a) σ H Q := by
  rintro σ H Q ⟨M, G, ρ, P, Xp, R, q, w, h⟩
  refine ⟨M, G, ρ, _, Xp, R, fun xs ρ1 vs G1 H1 s1 R1 ra h1 => ?_, w, h⟩
  obtain ⟨ds, e1, h1⟩ := withV_of h1
  intro x dx nx ndx nex
  have r := vals_of ra e1
  generalize hH2 : upd (upd H1 dx (.own x)) x (.ins C dx []) = H2
  have hx : H2 x = some (.ins C dx []) := by rw [← hH2]; exact upd_same
  have k12 : Same H1 H2 := fun b o e => by rw [← hH2, upd_ne (ne_of_none e nx), upd_ne (ne_of_none e ndx)]; exact e
  have gx := R1.same.free nx
  have mx := R1.mfree nx
  have hd := hlen _ ds _ _ h1
  have hO : ∀ (o' : D) (ds' : List D) i d, ds'.length = ds.length → i ∈ cg.O → sl ((o' :: ds').map some) i = some d → i = 0 ∧ d = o' := fun o' ds' i d hl hi e => by
    have := sl_lt e
    rw [List.length_map, List.length_cons, hl, hd] at this
    have : i = 0 := by have := hp i hi; omega
    subst this
    cases e
    exact ⟨rfl, rfl⟩
  have hM : ∀ b u, M.m b = some u → ¬ b = x := fun b u e c => by rw [c, mx] at e; cases e
  have hN : ∀ b o, H2 b = some o → ¬ MutO o → ¬ b = x := fun b u e n c => by
    rw [c, hx] at e
    cases e
    exact n mut_ins
  have R12 : Rs cf M G1 H2 σ ρ1 := ⟨R1.same.trans k12, fun b o e => ⟨k12 _ _ (R1.mem b o e).1, (R1.mem b o e).2⟩, R1.len, R1.imm, fun i d hi e => (by
    obtain ⟨b, w1, w2, w3, w4⟩ := R1.own i d hi e
    obtain ⟨u, hu⟩ := w4.there
    exact ⟨b, w1, w2, w3, w4.up (Same.refl _) ((k12 _ _ hu).trans hu.symm)⟩), R1.dis, R1.par, R1.tab.same k12⟩
  have w12 : XW cf W M G1 σ Xp := w.up s1
  refine ⟨outG G1 H2 (· = x), G1, .ins c [] :: ds, fun d ds' => ∃ o', ds' = o' :: ds ∧ d = .non ∧ P o' ρ1, Xp, ⟨R12.same, fun b u (e : outG G1 H2 (· = x) b = some u) => ⟨(outG_of e).1, (outG_of e).2.1⟩, by simp [r.len], fun i d hi e => ?_, fun i d hi e => ?_, fun i j d e a hi hj z1 z2 _ _ => ?_, fun i a e => (nomatch e), TabOk.nil⟩, ?_, fun d ds' v G' H' s2 R2 rd hP => ?_, w12.call R12 hM hN hK hc⟩
  · have ni : i ≠ 0 := fun c => hi (c ▸ h0)
    obtain ⟨j, rfl⟩ : ∃ j, i = j + 1 := ⟨i - 1, by omega⟩
    rw [hK, hc]; exact r.sl e
  · obtain ⟨rfl, rfl⟩ := hO _ ds i d rfl hi e
    refine ⟨x, rfl, gx, ?_, ?_⟩
    · show outG G1 H2 (· = x) x = none
      cases z : outG G1 H2 (· = x) x with
      | none => rfl
      | some u => exact absurd rfl (outG_of z).2.2
    · exact .ins (ns := []) (vs := []) (by rw [hc, hC]; exact hx) ⟨rfl, Nat.zero_le _⟩ .nil
  · rw [(hO _ ds i d rfl hi z1).1, (hO _ ds j e rfl hj z2).1]
  · show F (.ins c []) ds (fun d o' => ∃ o'', o' :: ds = o'' :: ds ∧ d = .non ∧ P o'' ρ1) Xp
    have e : (fun d o' => ∃ o'', o' :: ds = o'' :: ds ∧ d = .non ∧ P o'' ρ1) = fun (d : D) (o' : D) => (match d with
        | .non => P o' ρ1
        | _ => False) := by
      funext d o'
      refine propext ⟨fun ⟨o'', e, ed, p⟩ => by cases e; subst ed; exact p, fun p => ?_⟩
      cases d with
      | non => exact ⟨o', rfl, rfl, p⟩
      | _ => exact p.elim
    rw [e]; exact h1
  · obtain ⟨o', rfl, rfl, hP⟩ := hP
    cases rd
    refine ⟨rfl, ?_⟩
    obtain ⟨b, x1, x2, x3, x4⟩ := R2.own 0 o' h0 rfl
    cases x1
    rw [hK, hc] at x4
    obtain ⟨u, hu⟩ := x4.there
    have nO : ∀ i d a, i ∈ cf.O → sl ρ1 i = some d → σ[i]? = some (some (.ref a)) → ¬ a = x := fun i d a hi e ea c => by
      obtain ⟨b, w1, w2, w3, w4⟩ := R1.own i d hi e
      rw [ea] at w1
      cases w1
      obtain ⟨z, hz⟩ := w4.there
      rw [c, nx] at hz; cases hz
    have R3 : Rs cf M G' H' σ ρ1 := R12.after s2 R2.same R2.mem hM nO hN
    refine q o' ρ1 x u G' H' (s1.trans s2) mx hu ⟨R3.same, fun b o e => ?_, R3.len, R3.imm, fun i d hi e => ?_, R3.dis, R3.par, R3.tab.pin hu (mut_own x4 hu)⟩ x4 hP
    · by_cases c : b = x
      · subst c
        rw [Fx.up_same] at e
        cases e
        exact ⟨hu, x2⟩
      · rw [Fx.up_ne c] at e
        exact R3.mem b o e
    · obtain ⟨b, w1, w2, w3, w4⟩ := R3.own i d hi e
      exact ⟨b, w1, w2, by rw [Fx.up_ne (nO i d b hi e w1)]; exact w3, w4⟩
theorem f_make {C : Addr} {x : Str} {e : Expr} {es : List Expr} {p pos : Pos} {c n : Nat} {F : AFo} {a : AA} (Rn : RunM X C (Lift cg (afo F)) W) (hlen : ∀ o ds P X, F o ds P X → ds.length + 1 = n) (h0 : 0 ∈ cg.O) (hp : ∀ i ∈ cg.O, i = 0 ∨ n ≤ i) (hC : cf.cl.a c = C) (hg : Gl X x) (hm : X.mg x = some (.ref C)) (hk : PySem.W.keepIn X.K (.ref C) = true) (ha : Ea X cf W (e :: es) a)
    (hK : cg.K = cf.K := by rfl) (hc : cg.cl = cf.cl := by rfl) (hdb : (x == ("__debug__" : Str)) = false := by decide) (he : starEach (e :: es) X.env = (false, eval e X.env) :: starEach es X.env := by rfl) (hpl : (backTo pos (starEach es X.env)).any (·.1) = false := by rfl) :
    Ef X cf W (.Call (.Name x p) (e :: es) [] pos) (aMake c F a) := PE.imp (pe_runC Rn hg hm hk ha hdb he hpl) (make_ok hlen h0 hp hK hc hC)
end
end Al

/-! AL5: operators, fields, lists of one's own. -/
namespace Al
open PySem PySem.Spec PyProof.Rows L2 Cr
section
variable {X : Cx} {cf : Cf} {W : WX}
/-! ### whole numbers -/
def fI (g : Int → Int → D) : D → D → (D → Prop) → Prop := fun x y P => match x, y with
  | .int i, .int j => P (g i j)
  | _, _ => False
def fIC (C : Int → Int → Prop) (g : Int → Int → D) : D → D → (D → Prop) → Prop := fun x y P => match x, y with
  | .int i, .int j => C i j ∧ P (g i j)
  | _, _ => False
theorem rl_I {g : Int → Int → V} {gd : Int → Int → D} (h : ∀ i j G, Rp cf.K cf.cl G (g i j) (gd i j)) : RlO cf (rI0 g) (fI gd) := fun M G H σ ρ x y dx dy Q P R rx ry q hf => by
  unfold fI at hf
  split at hf
  · cases rx; cases ry
    exact ⟨_, _, rfl, rfl, q _ _ G H (Same.refl _) R (h _ _ G) hf⟩
  · exact hf.elim
theorem rl_IC {C : Int → Int → Prop} {g : Int → Int → V} {gd : Int → Int → D} (h : ∀ i j G, Rp cf.K cf.cl G (g i j) (gd i j)) : RlO cf (rI C g) (fIC C gd) := fun M G H σ ρ x y dx dy Q P R rx ry q hf => by
  unfold fIC at hf
  split at hf
  · cases rx; cases ry
    exact ⟨_, _, rfl, rfl, hf.1, q _ _ G H (Same.refl _) R (h _ _ G) hf.2⟩
  · exact hf.elim
abbrev oAdd := fI fun i j => .int (i + j)
abbrev oSub := fI fun i j => .int (i - j)
abbrev oMulW := fIC CMulW fun i j => .int (i * j)
abbrev oMod := fIC (fun _ j => j ≠ 0) fun i j => .int (i.fmod j)
abbrev oPow := fIC CPow fun i j => .int (i ^ j.toNat)
abbrev oLt := fI fun i j => .bl (decide (i < j))
abbrev oLe := fI fun i j => .bl (decide (i ≤ j))
abbrev oGt := fI fun i j => .bl (decide (j < i))
abbrev oGe := fI fun i j => .bl (decide (j ≤ i))
theorem r_int {g : Int → Int → Int} : ∀ i j G, Rp cf.K cf.cl G (.int (g i j)) (.int (g i j)) := fun i j G => .int _
theorem r_bl {g : Int → Int → Bool} : ∀ i j G, Rp cf.K cf.cl G (.bl (g i j)) (.bl (g i j)) := fun i j G => .bl _
def oNeg : D → (D → Prop) → Prop := fun x P => match x with
  | .int i => P (.int (-i))
  | _ => False
theorem rl_neg : RlU cf (rU fun i => .int (-i)) oNeg := fun M G H σ ρ x dx Q P R rx q hf => by
  unfold oNeg at hf
  split at hf
  · cases rx; exact ⟨_, rfl, q _ _ G H (Same.refl _) R (.int _) hf⟩
  · exact hf.elim
/-! ### == of scalars -/
def eqS : D → D → Option Bool
  | .non, .non => some true
  | .non, .int _ => some false | .int _, .non => some false | .non, .bl _ => some false | .bl _, .non => some false | .non, .str _ => some false | .str _, .non => some false
  | .int i, .int j => some (decide (i = j))
  | .bl a, .bl b => some (decide (a = b))
  | .str x, .str y => some (decide (x = y))
  | .int _, .str _ => some false | .str _, .int _ => some false | .bl _, .str _ => some false | .str _, .bl _ => some false
  | _, _ => none
def oEq : D → D → (D → Prop) → Prop := fun x y P => match eqS x y with
  | some b => P (.bl b)
  | none => False
def oNe : D → D → (D → Prop) → Prop := fun x y P => match eqS x y with
  | some b => P (.bl (!b))
  | none => False
theorem eqS_of {G : Hp} {x y : V} {dx dy : D} {b : Bool} (rx : Rp cf.K cf.cl G x dx) (ry : Rp cf.K cf.cl G y dy) (h : eqS dx dy = some b) : scal x y = true ∧ decide (x = y) = b := by
  cases rx <;> cases ry <;> simp only [eqS, reduceCtorEq, Option.some.injEq] at h <;> subst h <;> simp [scal]
theorem rl_eq : RlO cf rEq oEq := fun M G H σ ρ x y dx dy Q P R rx ry q hf => by
  unfold oEq at hf
  cases e : eqS dx dy with
  | none => rw [e] at hf; exact hf.elim
  | some b =>
    rw [e] at hf
    obtain ⟨h1, h2⟩ := eqS_of rx ry e
    exact ⟨h1, by rw [h2]; exact q _ _ G H (Same.refl _) R (.bl _) hf⟩
theorem rl_ne : RlO cf rNe oNe := fun M G H σ ρ x y dx dy Q P R rx ry q hf => by
  unfold oNe at hf
  cases e : eqS dx dy with
  | none => rw [e] at hf; exact hf.elim
  | some b =>
    rw [e] at hf
    obtain ⟨h1, h2⟩ := eqS_of rx ry e
    exact ⟨h1, by rw [h2]; exact q _ _ G H (Same.refl _) R (.bl _) hf⟩
/-- is None -/
def oIsN : D → D → (D → Prop) → Prop := fun x y P => match y with
  | .non => match x with
    | .non => P (.bl true)
    | .raw _ => False
    | _ => P (.bl false)
  | _ => False
def oNotN : D → D → (D → Prop) → Prop := fun x y P => match y with
  | .non => match x with
    | .non => P (.bl false)
    | .raw _ => False
    | _ => P (.bl true)
  | _ => False
theorem rl_isN : RlO cf (fun x y H Q => y = .non ∧ Q (.bl (decide (x = .non))) H) oIsN := fun M G H σ ρ x y dx dy Q P R rx ry q hf => by
  unfold oIsN at hf
  cases ry <;> first
    | exact hf.elim
    | skip
  refine ⟨rfl, ?_⟩
  cases rx <;> first
    | exact hf.elim
    | exact q _ _ G H (Same.refl _) R (.bl _) hf
theorem rl_notN : RlO cf (fun x y H Q => y = .non ∧ Q (.bl (!decide (x = .non))) H) oNotN := fun M G H σ ρ x y dx dy Q P R rx ry q hf => by
  unfold oNotN at hf
  cases ry <;> first
    | exact hf.elim
    | skip
  refine ⟨rfl, ?_⟩
  cases rx <;> first
    | exact hf.elim
    | exact q _ _ G H (Same.refl _) R (.bl _) hf
/-! ### == of data -/
mutual
def pyD : D → Option PyData
  | .non => some .none
  | .bl b => some (.bool b)
  | .int i => some (.int i)
  | .str x => some (.str x)
  | .lst ds => (pyDs ds).map .list
  | .tup ds => (pyDs ds).map .tuple
  | _ => none
def pyDs : List D → Option (List PyData)
  | [] => some []
  | d :: r => match pyD d, pyDs r with
    | some p, some ps => some (p :: ps)
    | _, _ => none
end
mutual
theorem py_of {G : Hp} {v : V} {d : D} {p : PyData} : Rp cf.K cf.cl G v d → pyD d = some p → Dp cf.K G v p
  | .non, h => by simp only [pyD, Option.some.injEq] at h; subst h; exact .non
  | .bl b, h => by simp only [pyD, Option.some.injEq] at h; subst h; exact .bl b
  | .int b, h => by simp only [pyD, Option.some.injEq] at h; subst h; exact .int b
  | .str b, h => by simp only [pyD, Option.some.injEq] at h; subst h; exact .str b
  | .lst (ds := ds) a r, h => by
    simp only [pyD] at h
    cases e : pyDs ds with
    | none => rw [e] at h; cases h
    | some ps => rw [e] at h; cases h; exact .lst (ofL a) (pys_of r e)
  | .tup (ds := ds) a r, h => by
    simp only [pyD] at h
    cases e : pyDs ds with
    | none => rw [e] at h; cases h
    | some ps => rw [e] at h; cases h; exact .tup a (pys_of r e)
  | .scr _, h => by simp only [pyD] at h; cases h
  | .dic _ _, h => by simp only [pyD] at h; cases h
  | .ins _ _ _, h => by simp only [pyD] at h; cases h
  | .exc _ _, h => by simp only [pyD] at h; cases h
  | .raw _, h => by simp only [pyD] at h; cases h
  | .tupF _ _ _, h => by simp only [pyD] at h; cases h
theorem pys_of {G : Hp} {vs : List V} {ds : List D} {ps : List PyData} : Rps cf.K cf.cl G vs ds → pyDs ds = some ps → DpAll cf.K G vs ps
  | .nil, h => by simp only [pyDs, Option.some.injEq] at h; subst h; exact .nil
  | .cons (d := d) (ds := ds) a r, h => by
    simp only [pyDs] at h
    cases e : pyD d with
    | none => rw [e] at h; cases h
    | some p =>
      cases e2 : pyDs ds with
      | none => rw [e, e2] at h; cases h
      | some ps => rw [e, e2] at h; cases h; exact .cons (py_of a e) (pys_of r e2)
end
mutual
theorem Dp.up {K : PySem.W.Frag} {G H : Hp} (s : Same G H) {v : V} {p : PyData} : Dp K G v p → Dp K H v p
  | .non => .non
  | .bl b => .bl b
  | .int b => .int b
  | .str b => .str b
  | .lst a r => .lst (Cr.Same.sqL s a) (DpAll.up s r)
  | .tup a r => .tup (Cr.Same.sqT s a) (DpAll.up s r)
theorem DpAll.up {K : PySem.W.Frag} {G H : Hp} (s : Same G H) {v : List V} {p : List PyData} : DpAll K G v p → DpAll K H v p
  | .nil => .nil
  | .cons a r => .cons (Dp.up s a) (DpAll.up s r)
end
def shD (d : D) : Bool := match pyD d with
  | some p => SeqAt.shaped p
  | none => false
def eqvD (x y : D) : Bool := match pyD x, pyD y with
  | some p, some q => PyData.eqv p q
  | _, _ => false
def oEqD : D → D → (D → Prop) → Prop := fun x y P => (shD x = true ∧ shD y = true) ∧ P (.bl (eqvD x y))
def oNeD : D → D → (D → Prop) → Prop := fun x y P => (shD x = true ∧ shD y = true) ∧ P (.bl (!eqvD x y))
theorem shD_of {d : D} (h : shD d = true) : ∃ p, pyD d = some p ∧ SeqAt.shaped p = true := by
  unfold shD at h
  cases e : pyD d with
  | none => rw [e] at h; cases h
  | some p => rw [e] at h; exact ⟨p, rfl, h⟩
theorem rl_eqD (hK : X.K = cf.K := by rfl) : RlO cf (rEqD X.K) oEqD := fun M G H σ ρ x y dx dy Q P R rx ry q hf => by
  obtain ⟨⟨h1, h2⟩, hf⟩ := hf
  obtain ⟨p, e1, s1⟩ := shD_of h1
  obtain ⟨p', e2, s2⟩ := shD_of h2
  rw [hK]
  refine ⟨p, p', Al.Dp.up R.same (py_of rx e1), Al.Dp.up R.same (py_of ry e2), s1, s2, ?_⟩
  unfold eqvD at hf
  rw [e1, e2] at hf
  exact q _ _ G H (Same.refl _) R (.bl _) hf
theorem rl_neD (hK : X.K = cf.K := by rfl) : RlO cf (rNeD X.K) oNeD := fun M G H σ ρ x y dx dy Q P R rx ry q hf => by
  obtain ⟨⟨h1, h2⟩, hf⟩ := hf
  obtain ⟨p, e1, s1⟩ := shD_of h1
  obtain ⟨p', e2, s2⟩ := shD_of h2
  rw [hK]
  refine ⟨p, p', Al.Dp.up R.same (py_of rx e1), Al.Dp.up R.same (py_of ry e2), s1, s2, ?_⟩
  unfold eqvD at hf
  rw [e1, e2] at hf
  exact q _ _ G H (Same.refl _) R (.bl _) hf
/-- xs == [], xs != [], whatever stands in xs -/
def oEqE : D → D → (D → Prop) → Prop := fun x y P => match x, y with
  | .lst ds, .lst [] => P (.bl ds.isEmpty)
  | _, _ => False
def oNeE : D → D → (D → Prop) → Prop := fun x y P => match x, y with
  | .lst ds, .lst [] => P (.bl (!ds.isEmpty))
  | _, _ => False
theorem isE {G : Hp} {vs : List V} {ds : List D} (r : Rps cf.K cf.cl G vs ds) : vs.isEmpty = ds.isEmpty := by cases r <;> rfl
theorem rl_eqE (hK : X.K = cf.K := by rfl) : RlO cf (fun x y H Q => ∃ (a b : Addr) (xs : List V), x = .ref a ∧ y = .ref b ∧ SqL X.K H a xs ∧ SqL X.K H b [] ∧ Q (.bl xs.isEmpty) H) oEqE := fun M G H σ ρ x y dx dy Q P R rx ry q hf => by
  unfold oEqE at hf
  split at hf
  · cases rx with
    | lst h1 r1 =>
      cases ry with
      | lst h2 r2 =>
        cases r2
        rw [← isE r1] at hf
        exact ⟨_, _, _, rfl, rfl, by rw [hK]; exact sqL_up R.same h1, by rw [hK]; exact sqL_up R.same h2, q _ _ G H (Same.refl _) R (.bl _) hf⟩
  · exact hf.elim
theorem rl_neE (hK : X.K = cf.K := by rfl) : RlO cf (fun x y H Q => ∃ (a b : Addr) (xs : List V), x = .ref a ∧ y = .ref b ∧ SqL X.K H a xs ∧ SqL X.K H b [] ∧ Q (.bl (!xs.isEmpty)) H) oNeE := fun M G H σ ρ x y dx dy Q P R rx ry q hf => by
  unfold oNeE at hf
  split at hf
  · cases rx with
    | lst h1 r1 =>
      cases ry with
      | lst h2 r2 =>
        cases r2
        rw [← isE r1] at hf
        exact ⟨_, _, _, rfl, rfl, by rw [hK]; exact sqL_up R.same h1, by rw [hK]; exact sqL_up R.same h2, q _ _ G H (Same.refl _) R (.bl _) hf⟩
  · exact hf.elim
/-! ### + of texts, tuples, lists -/
def oCatS : D → D → (D → Prop) → Prop := fun x y P => match x, y with
  | .str a, .str b => a.length + b.length ≤ sizeLine ∧ P (.str (a ++ b))
  | _, _ => False
theorem rl_catS : RlO cf (fun x y H Q => ∃ i j, x = .str i ∧ y = .str j ∧ i.length + j.length ≤ sizeLine ∧ Q (.str (i ++ j)) H) oCatS := fun M G H σ ρ x y dx dy Q P R rx ry q hf => by
  unfold oCatS at hf
  split at hf
  · cases rx; cases ry
    exact ⟨_, _, rfl, rfl, hf.1, q _ _ G H (Same.refl _) R (.str _) hf.2⟩
  · exact hf.elim
def oCatT : D → D → (D → Prop) → Prop := fun x y P => match x, y with
  | .tup a, .tup b => a.length + b.length ≤ sizeLine ∧ P (.tup (a ++ b))
  | _, _ => False
theorem rl_catT (hK : X.K = cf.K := by rfl) : RlO cf (rCatA X.K) oCatT := fun M G H σ ρ x y dx dy Q P R rx ry q hf => by
  unfold oCatT at hf
  split at hf
  · cases rx with
    | tup h1 r1 =>
      cases ry with
      | tup h2 r2 =>
        rw [hK]
        refine ⟨_, _, _, _, rfl, rfl, Cr.Same.sqT R.same h1, Cr.Same.sqT R.same h2, by rw [r1.len, r2.len]; exact hf.1, fun e => ?_, fun _ e => ?_, fun _ _ p np => ?_⟩
        · subst e
          cases r1
          exact q _ _ G H (Same.refl _) R (.tup h2 r2) hf.2
        · subst e
          cases r2
          rw [List.append_nil] at hf
          exact q _ _ G H (Same.refl _) R (.tup h1 r1) hf.2
        · obtain ⟨R2, s2, gp⟩ := R.new (o := .tup _) np
          exact q _ _ _ _ s2 R2 (.tup (ofT gp) ((r1.app r2).up s2)) hf.2
  · exact hf.elim
def oCatL : D → D → (D → Prop) → Prop := fun x y P => match x, y with
  | .lst a, .lst b => a.length + b.length ≤ sizeLine ∧ P (.lst (a ++ b))
  | _, _ => False
/-! ### items -/
def oIxL : D → D → (D → Prop) → Prop := fun x y P => match x, y with
  | .lst ds, .int i => match atI ds i with
    | some d => P d
    | none => False
  | _, _ => False
def oIxT : D → D → (D → Prop) → Prop := fun x y P => match x, y with
  | .tup ds, .int i => match atI ds i with
    | some d => P d
    | none => False
  | _, _ => False
theorem atI_of {K : PySem.W.Frag} {cl : Tb} {G : Hp} {vs : List V} {ds : List D} {i : Int} {d : D} (r : Rps K cl G vs ds) (h : atI ds i = some d) : ∃ v, atI vs i = some v ∧ Rp K cl G v d := by
  unfold atI at h ⊢
  rw [r.len]
  cases e : ixN ds.length i with
  | none => rw [e] at h; cases h
  | some j =>
    rw [e] at h
    exact r.getD h
theorem rl_ixL (hK : X.K = cf.K := by rfl) : RlO cf (rIxL X.K) oIxL := fun M G H σ ρ x y dx dy Q P R rx ry q hf => by
  unfold oIxL at hf
  split at hf
  · next ds i =>
    cases rx with
    | lst h1 r1 =>
      cases ry
      cases e : atI ds i with
      | none => rw [e] at hf; exact hf.elim
      | some d =>
        rw [e] at hf
        obtain ⟨v, e1, r⟩ := atI_of r1 e
        exact ⟨_, _, _, v, rfl, rfl, by rw [hK]; exact sqL_up R.same h1, e1, q _ _ G H (Same.refl _) R r hf⟩
  · exact hf.elim
theorem rl_ixT (hK : X.K = cf.K := by rfl) : RlO cf (rIxT X.K) oIxT := fun M G H σ ρ x y dx dy Q P R rx ry q hf => by
  unfold oIxT at hf
  split at hf
  · next ds i =>
    cases rx with
    | tup h1 r1 =>
      cases ry
      cases e : atI ds i with
      | none => rw [e] at hf; exact hf.elim
      | some d =>
        rw [e] at hf
        obtain ⟨v, e1, r⟩ := atI_of r1 e
        exact ⟨_, _, _, v, rfl, rfl, by rw [hK]; exact Cr.Same.sqT R.same h1, e1, q _ _ G H (Same.refl _) R r hf⟩
  · exact hf.elim
def oIxS : D → D → (D → Prop) → Prop := fun x y P => match x, y with
  | .str z, .int i => z.length ≤ sizeLine ∧ (match atI z.cps.toList i with
    | some c => P (.str ⟨#[c]⟩)
    | none => False)
  | _, _ => False
theorem rl_ixS : RlO cf rIxS oIxS := fun M G H σ ρ x y dx dy Q P R rx ry q hf => by
  unfold oIxS at hf
  split at hf
  · next z i =>
    cases rx; cases ry
    obtain ⟨hl, hf⟩ := hf
    cases e : atI z.cps.toList i with
    | none => rw [e] at hf; exact hf.elim
    | some c =>
      rw [e] at hf
      exact ⟨_, _, c, rfl, rfl, hl, e, q _ _ G H (Same.refl _) R (.str _) hf⟩
  · exact hf.elim
/-! ### slices -/
def cutD (xs : List D) (lo hi : Option Int) : List D := (xs.drop (HT.sIx xs.length 0 lo)).take (HT.sIx xs.length xs.length hi - HT.sIx xs.length 0 lo)
theorem Rps.cut {K : PySem.W.Frag} {cl : Tb} {G : Hp} {vs : List V} {ds : List D} (r : Rps K cl G vs ds) (lo hi : Option Int) : Rps K cl G (cutV vs lo hi) (cutD ds lo hi) := by
  unfold cutV cutD
  rw [r.len]
  exact (r.drop _).take _
abbrev AO := Ev → (Option Int → Ev → Prop) → XP → Prop
def pN : AO := fun ρ P _ => P none ρ
def pS (a : AE) : AO := fun ρ P X => a ρ (fun d ρ1 => match d with
  | .int i => P (some i) ρ1
  | _ => False) X
def γO (cf : Cf) (W : WX) (a : AO) : TO := fun σ H Q => ∃ (M : Fx) (G : Hp) (ρ : Ev) (P : Option Int → Ev → Prop) (X : XP), Rs cf M G H σ ρ ∧ (∀ b ρ' G' H', Same G G' → Rs cf M G' H' σ ρ' → P b ρ' → Q b H') ∧ XW cf W M G σ X ∧ a ρ P X
theorem PO.imp {e : Option Expr} {t t' : TO} (h : PO X e t) (i : ∀ σ H Q, t' σ H Q → t σ H Q) : PO X e t' := ⟨fun pins s σ H Q I q => h.run pins s σ H Q I (i σ H Q q)⟩
abbrev Eo (X : Cx) (cf : Cf) (W : WX) (e : Option Expr) (a : AO) : Prop := PO X e (γO cf W a)
theorem o_none : Eo X cf W none pN := PO.imp po_none fun σ H Q ⟨M, G, ρ, P, Xp, R, q, _, a⟩ => q none ρ G H (Same.refl _) R a
theorem o_some {e : Expr} {a : AE} (h : Ee X cf W e a) : Eo X cf W (some e) (pS a) := PO.imp (po_some h) fun σ H Q ⟨M, G, ρ, P, Xp, R, q, w, h⟩ => by
  refine ⟨M, G, ρ, _, Xp, R, fun d ρ1 v G1 H1 s1 R1 rd h1 => ?_, w, h⟩
  cases rd with
  | int i => exact ⟨i, rfl, q _ ρ1 G1 H1 s1 R1 h1⟩
  | _ => exact h1.elim
def RlS (cf : Cf) (r : V → Option Int → Option Int → Hp → VK → Prop) (f : D → Option Int → Option Int → (D → Prop) → Prop) : Prop := ∀ (M : Fx) (G H : Hp) (σ : L2.St) (ρ : Ev) (x : V) (dx : D) (lo hi : Option Int) (Q : VK) (P : D → Prop), Rs cf M G H σ ρ → Rp cf.K cf.cl G x dx →
  (∀ d v G' H', Same G G' → Rs cf M G' H' σ ρ → Rp cf.K cf.cl G' v d → P d → Q v H') → f dx lo hi P → r x lo hi H Q
def aSl (f : D → Option Int → Option Int → (D → Prop) → Prop) (a : AE) (l u : AO) : AE := fun ρ P X => a ρ (fun x ρ1 => l ρ1 (fun lo ρ2 => u ρ2 (fun hi ρ3 => f x lo hi fun d => P d ρ3) X) X) X
theorem e_slice {r : V → Option Int → Option Int → Hp → VK → Prop} {f : D → Option Int → Option Int → (D → Prop) → Prop} {e : Expr} {lo hi : Option Expr} {a : AE} {l u : AO} {p2 pos : Pos} (hs : SlR X r) (hr : RlS cf r f) (he : Ee X cf W e a) (hl : Eo X cf W lo l) (hu : Eo X cf W hi u) : Ee X cf W (.Subscript e (.Slice lo hi none p2) pos) (aSl f a l u) := PE.imp (pe_slice hs he hl hu) fun σ H Q ⟨M, G, ρ, P, Xp, R, q, w, h⟩ => by
  refine ⟨M, G, ρ, _, Xp, R, fun x ρ1 v G1 H1 s1 R1 rx h1 => ?_, w, h⟩
  refine ⟨M, G1, ρ1, _, Xp, R1, fun lo ρ2 G2 H2 s2 R2 h2 => ?_, w.up s1, h1⟩
  refine ⟨M, G2, ρ2, _, Xp, R2, fun hi ρ3 G3 H3 s3 R3 h3 => ?_, (w.up s1).up s2, h2⟩
  exact hr M G3 H3 σ ρ3 v x lo hi Q _ R3 ((rx.up s2).up s3) (fun d z G4 H4 s4 R4 rz p => q d ρ3 z G4 H4 (((s1.trans s2).trans s3).trans s4) R4 rz p) h3
def slL : D → Option Int → Option Int → (D → Prop) → Prop := fun x lo hi P => match x with
  | .lst ds => P (.lst (cutD ds lo hi))
  | .scr ns => P (.lst (cutD (ns.map D.int) lo hi))
  | _ => False
def slT : D → Option Int → Option Int → (D → Prop) → Prop := fun x lo hi P => match x with
  | .tup ds => P (.tup (cutD ds lo hi))
  | _ => False
def slS : D → Option Int → Option Int → (D → Prop) → Prop := fun x lo hi P => match x with
  | .str z => z.length ≤ sizeLine ∧ P (.str (cutS z lo hi))
  | _ => False
theorem rl_slL (hK : X.K = cf.K := by rfl) : RlS cf (rSlL X.K) slL := fun M G H σ ρ x dx lo hi Q P R rx q hf => by
  unfold slL at hf
  split at hf
  · cases rx with
    | lst h1 r1 =>
      rw [hK]
      refine ⟨_, _, rfl, sqL_up R.same h1, fun p np => ?_⟩
      obtain ⟨R2, s2, gp⟩ := R.new (o := .lst _) np
      exact q _ _ _ _ s2 R2 (.lst gp ((r1.cut lo hi).up s2)) hf
  · next ns =>
    cases rx with
    | scr h1 =>
      rw [hK]
      refine ⟨_, _, rfl, Cr.Same.sqL R.same h1, fun p np => ?_⟩
      obtain ⟨R2, s2, gp⟩ := R.new (o := .lst _) np
      exact q _ _ _ _ s2 R2 (.lst gp (((Rps.ints ns).cut lo hi).up s2)) hf
  · exact hf.elim
theorem rl_slT (hK : X.K = cf.K := by rfl) : RlS cf (rSlA X.K) slT := fun M G H σ ρ x dx lo hi Q P R rx q hf => by
  unfold slT at hf
  split at hf
  · cases rx with
    | tup h1 r1 =>
      rw [hK]
      refine ⟨_, _, rfl, Cr.Same.sqT R.same h1, fun e => ?_, fun _ p np => ?_⟩
      · have r2 := r1.cut lo hi
        rw [cutV_all e] at r2
        exact q _ _ G H (Same.refl _) R (.tup h1 r2) hf
      · obtain ⟨R2, s2, gp⟩ := R.new (o := .tup _) np
        exact q _ _ _ _ s2 R2 (.tup (ofT gp) ((r1.cut lo hi).up s2)) hf
  · exact hf.elim
theorem rl_slS : RlS cf rSlS slS := fun M G H σ ρ x dx lo hi Q P R rx q hf => by
  unfold slS at hf
  split at hf
  · cases rx
    exact ⟨_, rfl, hf.1, q _ _ G H (Same.refl _) R (.str _) hf.2⟩
  · exact hf.elim
/-! ### fields -/
def aFld (c k : Nat) (a : AE) : AE := fun ρ P X => a ρ (fun d ρ1 => match d with
  | .ins c' ds => match Nat.beq c' c with
    | true => match ds[k]? with
      | some v => P v ρ1
      | none => False
    | false => False
  | _ => False) X
theorem fld_at {G H : Hp} {dx : Addr} {c k : Nat} {f : Str} {ns : List Str} {vs : List V} {ds : List D} {d : D} (hN : (cf.cl.nm c).Nodup) (hf : (cf.cl.nm c)[k]? = some f) (en : (cf.cl.nm c).take ds.length = ns ∧ ds.length ≤ (cf.cl.nm c).length) (r : Rps cf.K cf.cl G vs ds) (h : ds[k]? = some d) : ∃ v, (ns.zip vs).lookup f = some v ∧ Rp cf.K cf.cl G v d := by
  obtain ⟨v, e1, r1⟩ := r.getD h
  have hk : k < ds.length := (List.getElem?_eq_some_iff.mp h).1
  refine ⟨v, zip_look (by rw [← en.1]; exact hN.sublist (List.take_sublist _ _)) ?_ e1, r1⟩
  rw [← en.1, List.getElem?_take, if_pos hk]
  exact hf
theorem e_fld {C : Addr} {c k : Nat} {f : Str} {e : Expr} {a : AE} {pos : Pos} (hC : cf.cl.a c = C) (hcl : Cls X.K C) (hn : NoAttr X.K C f) (hN : (cf.cl.nm c).Nodup) (hf : (cf.cl.nm c)[k]? = some f) (he : Ee X cf W e a) (hb : attributeBase e f X.env (eval e X.env) = eval e X.env := by rfl) : Ee X cf W (.Attribute e f pos) (aFld c k a) := PE.imp (pe_fld he hb) fun σ H Q ⟨M, G, ρ, P, Xp, R, q, w, h⟩ => by
  refine ⟨M, G, ρ, _, Xp, R, fun d ρ1 v G1 H1 s1 R1 rd h1 => ?_, w, h⟩
  cases rd with
  | @ins a dx c' ns vs' ds' h2 e2 r2 =>
    simp only at h1
    cases hb : Nat.beq c' c with
    | false => rw [hb] at h1; exact h1.elim
    | true =>
      rw [hb] at h1
      obtain rfl : c' = c := Nat.eq_of_beq_eq_true hb
      cases e3 : ds'[k]? with
      | none => rw [e3] at h1; exact h1.elim
      | some d =>
        rw [e3] at h1
        obtain ⟨v, l, r⟩ := fld_at (H := H1) (dx := dx) hN hf e2 r2 e3
        exact ⟨a, C, dx, _, v, rfl, by rw [← hC]; exact R1.same _ _ h2, hcl, hn, l, q d ρ1 v G1 H1 s1 R1 r h1⟩
  | _ => exact h1.elim
/-- a field of a thing of one's own -/
def aFldO (i c k : Nat) : AE := fun ρ P _ => match sl ρ i with
  | some (.ins c' ds) => match Nat.beq c' c with
    | true => match ds[k]? with
      | some v => P v ρ
      | none => False
    | false => False
  | _ => False
def setF {α : Type} : Nat → α → List α → Option (List α)
  | 0, d, [] => some [d]
  | _ + 1, _, [] => none
  | 0, d, _ :: r => some (d :: r)
  | k + 1, d, x :: r => match setF k d r with
    | some r' => some (x :: r')
    | none => none
theorem setF_len {α : Type} : ∀ {k : Nat} {d : α} {r r' : List α}, setF k d r = some r' → r'.length = max r.length (k + 1) ∧ k ≤ r.length
  | 0, d, [], r', h => by cases h; simp
  | k + 1, d, [], r', h => by cases h
  | 0, d, x :: r, r', h => by cases h; simp
  | k + 1, d, x :: r, r', h => by
    simp only [setF] at h
    cases e : setF k d r with
    | none => rw [e] at h; cases h
    | some r2 => rw [e] at h; cases h; have := setF_len e; simp; omega
theorem putF_zip : ∀ {N : List Str} {k : Nat} {f : Str} {y : V} {vs vs' : List V}, N.Nodup → N[k]? = some f → vs.length ≤ N.length → setF k y vs = some vs' → putF f y ((N.take vs.length).zip vs) = (N.take vs'.length).zip vs'
  | [], k, f, y, vs, vs', _, h, _, _ => by cases h
  | n :: N, 0, f, y, [], vs', _, h, _, e => by cases h; cases e; simp [putF]
  | n :: N, k + 1, f, y, [], vs', _, h, _, e => by cases e
  | n :: N, 0, f, y, v :: vs, vs', _, h, _, e => by cases h; cases e; simp [putF]
  | n :: N, k + 1, f, y, v :: vs, vs', hN, h, hl, e => by
    simp only [setF] at e
    cases e2 : setF k y vs with
    | none => rw [e2] at e; cases e
    | some r2 =>
      rw [e2] at e
      cases e
      simp only [List.getElem?_cons_succ] at h
      have ne : n ≠ f := by
        rintro rfl
        exact (List.nodup_cons.mp hN).1 (List.mem_of_getElem? h)
      have ih := putF_zip (List.nodup_cons.mp hN).2 h (by simpa using hl) e2
      simp only [List.length_cons, List.take_succ_cons, List.zip_cons_cons, putF, if_neg ne, ih]
theorem Rps.setF {K : PySem.W.Frag} {cl : Tb} {G : Hp} {v : V} {d : D} (hv : Rp K cl G v d) : ∀ {k : Nat} {vs : List V} {ds ds' : List D}, Rps K cl G vs ds → Al.setF k d ds = some ds' → ∃ vs', Al.setF k v vs = some vs' ∧ Rps K cl G vs' ds'
  | 0, _, _, ds', .nil, h => by cases h; exact ⟨_, rfl, .cons hv .nil⟩
  | k + 1, _, _, ds', .nil, h => by cases h
  | 0, _, _, ds', .cons a r, h => by cases h; exact ⟨_, rfl, .cons hv r⟩
  | k + 1, _, _, ds', .cons (ds := ds) a r, h => by
    simp only [Al.setF] at h
    cases e : Al.setF k d ds with
    | none => rw [e] at h; cases h
    | some r2 =>
      rw [e] at h
      cases h
      obtain ⟨vs', e1, r1⟩ := Rps.setF hv r e
      exact ⟨_, by simp only [Al.setF, e1], .cons a r1⟩
/-- self.f = e, self a thing of one's own -/
def sFldO (i c k : Nat) (a : AE) : AS := fun A ρ => a ρ (fun d ρ1 => match sl ρ1 i with
  | some (.ins c' ds) => match Nat.beq c' c with
    | true => match setF k d ds with
      | some ds' => A.nx (ρ1.set i (some (.ins c ds')))
      | none => False
    | false => False
  | _ => False) A.ex
theorem s_fldO {C : Addr} {i c k : Nat} {f : Str} {e v : Expr} {a : AE} {pos pos' : Pos} (hC : cf.cl.a c = C) (hcl : Cls X.K C) (hn : NoAttr X.K C f) (hN : (cf.cl.nm c).Nodup) (hl : (cf.cl.nm c).length < 1000) (hf : (cf.cl.nm c)[k]? = some f) (he : PE X e (tVar i)) (hi : i ∈ cf.O) (hv : Ee X cf W v a) (hs : swapsWith v (some (.Attribute e f pos')) pos.line X.env = pure false := by rfl) :
    Es X cf W (.Assign [.Attribute e f pos'] v pos) (sFldO i c k a) := PS.imp (ps_fld he hv hs) fun Dn σ H ⟨M, G, ρ, A, R, q, h⟩ => by
  refine ⟨M, G, ρ, _, A.ex, R, fun d ρ1 v G1 H1 s1 R1 rd h1 => ?_, q.ex σ, h⟩
  cases e0 : sl ρ1 i with
  | none => rw [e0] at h1; exact h1.elim
  | some o =>
    rw [e0] at h1
    obtain ⟨a, w1, w2, w3, w4⟩ := R1.own i o hi e0
    refine ⟨_, w1, ?_⟩
    cases w4 with
    | @ins dx c' ns vs' ds' h2 e2 r2 =>
      simp only at h1
      cases hb : Nat.beq c' c with
      | false => rw [hb] at h1; exact h1.elim
      | true =>
        rw [hb] at h1
        obtain rfl : c' = c := Nat.eq_of_beq_eq_true hb
        cases e3 : setF k d ds' with
        | none => rw [e3] at h1; exact h1.elim
        | some ds2 =>
          rw [e3] at h1
          obtain ⟨vs2, e4, r4⟩ := Rps.setF rd r2 e3
          have hk : k < (cf.cl.nm c').length := (List.getElem?_eq_some_iff.mp hf).1
          have l1 := setF_len e4
          have l2 := r2.len
          have hlen : vs'.length ≤ (cf.cl.nm c').length := by rw [l2]; exact e2.2
          have pz := putF_zip hN hf hlen e4
          rw [← e2.1, ← l2] at h2
          refine ⟨a, C, dx, _, rfl, by rw [← hC]; exact h2, hcl, hn, ?_, ?_⟩
          · rw [List.length_zip, List.length_take]; omega
          · refine q.nx _ _ G1 _ s1 ?_ h1
            refine R1.chg hi e0 w1 ?_
            refine .ins (dx := dx) (ns := (cf.cl.nm c').take vs2.length) (vs := vs2) ?_ ⟨by rw [r4.len], by rw [← r4.len]; omega⟩ r4
            rw [upd_same, pz, hC]
    | _ => exact h1.elim
end
end Al

/-! AL6: lists of one's own changed, built-in functions, texts, isinstance. -/
namespace Al
open PySem PySem.Spec PyProof.Rows L2 Cr
section
variable {X : Cx} {cf : Cf} {W : WX}
/-! ### a list of one's own -/
/-- the list in slot i -/
def withL (ρ : Ev) (i : Nat) (k : List D → Prop) : Prop := match sl ρ i with
  | some (.lst ds) => k ds
  | _ => False
theorem withL_of {ρ : Ev} {i : Nat} {k : List D → Prop} (h : withL ρ i k) : ∃ ds, sl ρ i = some (.lst ds) ∧ k ds := by
  unfold withL at h
  split at h
  · next ds e => exact ⟨ds, e, h⟩
  · exact h.elim
theorem Rs.listO {M : Fx} {G H : Hp} {σ : L2.St} {ρ : Ev} {i : Nat} {ds : List D} (R : Rs cf M G H σ ρ) (hi : i ∈ cf.O) (e : sl ρ i = some (.lst ds)) : ∃ a vs, σ[i]? = some (some (.ref a)) ∧ H a = some (.lst vs) ∧ Rps cf.K cf.cl G vs ds := by
  obtain ⟨a, w1, w2, w3, w4⟩ := R.own i _ hi e
  cases w4 with
  | lst h r => exact ⟨a, _, w1, h, r⟩
/-- x.append(e) -/
def aApp (i : Nat) (a : AE) : AE := fun ρ P X => withL ρ i fun _ => a ρ (fun d ρ1 => withL ρ1 i fun ds => ds.length < sizeLine ∧ P .non (ρ1.set i (some (.lst (ds ++ [d]))))) X
/-- x.reverse() -/
def aRev (i : Nat) : AE := fun ρ P X => withL ρ i fun ds => P .non (ρ.set i (some (.lst ds.reverse)))
theorem Rps.rev {K : PySem.W.Frag} {cl : Tb} {G : Hp} {vs : List V} {ds : List D} : Rps K cl G vs ds → Rps K cl G vs.reverse ds.reverse
  | .nil => .nil
  | .cons a r => by simp only [List.reverse_cons]; exact (Rps.rev r).app (.cons a .nil)
theorem Rps.dropLast {K : PySem.W.Frag} {cl : Tb} {G : Hp} {vs : List V} {ds : List D} (r : Rps K cl G vs ds) : Rps K cl G vs.dropLast ds.dropLast := by
  rw [List.dropLast_eq_take, List.dropLast_eq_take, r.len]
  exact r.take _
/-- x.extend(ys), ys never changes -/
def aExt (i : Nat) (a : AE) : AE := fun ρ P X => withL ρ i fun _ => a ρ (fun d ρ1 => match d with
  | .lst es => withL ρ1 i fun ds => ds.length + es.length ≤ sizeLine ∧ P .non (ρ1.set i (some (.lst (ds ++ es))))
  | _ => False) X
/-- x[k] of a list of one's own -/
def aIxO (i : Nat) (k : AE) : AE := fun ρ P X => withL ρ i fun _ => k ρ (fun kd ρ1 => match kd with
  | .int n => withL ρ1 i fun ds => match atI ds n with
    | some d => P d ρ1
    | none => False
  | _ => False) X
theorem e_ixO {i : Nat} {o e : Expr} {k : AE} {pos : Pos} (ho : PE X o (tVar i)) (hi : i ∈ cf.O) (he : Ee X cf W e k) (hs : PlainIx e := by exact fun _ _ => rfl) (hK : X.K = cf.K := by rfl) : Ee X cf W (.Subscript o e pos) (aIxO i k) := PE.imp (pe_ix ix_list ho he hs) fun σ H Q ⟨M, G, ρ, P, Xp, R, q, w, h⟩ => by
  obtain ⟨ds0, e0, h⟩ := withL_of h
  obtain ⟨b, vs0, w1, hb, r⟩ := R.listO hi e0
  refine ⟨_, w1, M, G, ρ, _, Xp, R, fun d ρ1 v G1 H1 s1 R1 rd h1 => ?_, w, h⟩
  cases rd with
  | int n =>
    obtain ⟨ds, e1, h1⟩ := withL_of h1
    obtain ⟨b', vs, w2, hb', r⟩ := R1.listO hi e1
    rw [w1] at w2
    cases w2
    cases e2 : atI ds n with
    | none => rw [e2] at h1; exact h1.elim
    | some d =>
      rw [e2] at h1
      obtain ⟨v, e3, r3⟩ := atI_of r e2
      exact ⟨b, vs, n, v, rfl, rfl, ofL hb', e3, q _ _ _ G1 _ s1 R1 r3 h1⟩
  | _ => exact h1.elim
/-- x[k] = e -/
def sIxO (i : Nat) (a k : AE) : AS := fun A ρ => a ρ (fun d ρ1 => withL ρ1 i fun _ => k ρ1 (fun kd ρ2 => match kd with
  | .int n => withL ρ2 i fun ds => match ixN ds.length n with
    | some j => A.nx (ρ2.set i (some (.lst (ds.set j d))))
    | none => False
  | _ => False) A.ex) A.ex
theorem s_ixO {i : Nat} {o e v : Expr} {a k : AE} {pos p2 : Pos} (ho : PE X o (tVar i)) (hi : i ∈ cf.O) (hv : Ee X cf W v a) (he : Ee X cf W e k)
    (h : PE X v (γE cf W a) → PG X (.Subscript o e p2) (gSub (tVar i) (γE cf W k) rSetL) → PS X (.Assign [.Subscript o e p2] v pos) (tAsg (γE cf W a) (gSub (tVar i) (γE cf W k) rSetL))) (hg : PE X o (tVar i) → PE X e (γE cf W k) → PG X (.Subscript o e p2) (gSub (tVar i) (γE cf W k) rSetL)) :
    Es X cf W (.Assign [.Subscript o e p2] v pos) (sIxO i a k) := PS.imp (h hv (hg ho he)) fun Dn σ H ⟨M, G, ρ, A, R, q, h⟩ => by
  refine ⟨M, G, ρ, _, A.ex, R, fun d ρ1 v G1 H1 s1 R1 rd h1 => ?_, q.ex σ, h⟩
  obtain ⟨ds0, e0, h1⟩ := withL_of h1
  obtain ⟨b, vs0, w1, hb, r⟩ := R1.listO hi e0
  refine ⟨_, w1, M, G1, ρ1, _, A.ex, R1, fun kd ρ2 kv G2 H2 s2 R2 rk h2 => ?_, (q.ex σ).up s1, h1⟩
  cases rk with
  | int n =>
    obtain ⟨ds, e1, h2⟩ := withL_of h2
    obtain ⟨b', vs, w2, hb', r⟩ := R2.listO hi e1
    rw [w1] at w2
    cases w2
    cases e2 : ixN ds.length n with
    | none => rw [e2] at h2; exact h2.elim
    | some j =>
      rw [e2] at h2
      refine ⟨b, vs, n, j, rfl, rfl, hb', by rw [r.len]; exact e2, ?_⟩
      exact q.nx _ _ G2 _ (s1.trans s2) (R2.chg hi e1 w1 (.lst upd_same (r.set j (rd.up s2)))) h2
  | _ => exact h2.elim
/-- len(x), tuple(x), list(x) of a list of one's own -/
def aLenO (i : Nat) : AE := fun ρ P _ => withL ρ i fun ds => P (.int (ds.length : Nat)) ρ
def aTupO (i : Nat) : AE := fun ρ P _ => withL ρ i fun ds => P (.tup ds) ρ
/-- x == [], x != [] of a list of one's own -/
def aEmpO (i : Nat) (neg : Bool) : AE := fun ρ P _ => withL ρ i fun ds => P (.bl (if neg then !ds.isEmpty else ds.isEmpty)) ρ
/-! ### built-in functions -/
def fLen : List D → (D → Prop) → Prop := fun ds P => match ds with
  | [.lst es] => P (.int (es.length : Nat))
  | [.scr es] => P (.int (es.length : Nat))
  | [.tup es] => P (.int (es.length : Nat))
  | _ => False
theorem rl_len (hK : X.K = cf.K := by rfl) : RlC cf (fun xs H Q => ∃ p ys, xs = [.ref p] ∧ (SqL X.K H p ys ∨ SqT X.K H p ys) ∧ Q (.int ys.length) H) fLen := fun M G H σ ρ xs ds Q P R rx q hf => by
  unfold fLen at hf
  split at hf
  · cases rx with
    | cons a r =>
      cases r
      cases a with
      | lst h1 r1 => rw [← r1.len] at hf; exact ⟨_, _, rfl, .inl (by rw [hK]; exact sqL_up R.same h1), q _ _ G H (Same.refl _) R (.int _) hf⟩
  · next es =>
    cases rx with
    | cons a r =>
      cases r
      cases a with
      | scr h1 => rw [← List.length_map (f := V.int) (as := es)] at hf; exact ⟨_, _, rfl, .inl (by rw [hK]; exact Cr.Same.sqL R.same h1), q _ _ G H (Same.refl _) R (.int _) hf⟩
  · cases rx with
    | cons a r =>
      cases r
      cases a with
      | tup h1 r1 => rw [← r1.len] at hf; exact ⟨_, _, rfl, .inr (by rw [hK]; exact Cr.Same.sqT R.same h1), q _ _ G H (Same.refl _) R (.int _) hf⟩
  · exact hf.elim
def fLenS : List D → (D → Prop) → Prop := fun ds P => match ds with
  | [.str z] => z.length ≤ sizeLine ∧ P (.int (z.length : Nat))
  | _ => False
theorem rl_lenS : RlC cf (fun xs H Q => ∃ z, xs = [.str z] ∧ z.length ≤ sizeLine ∧ Q (.int z.length) H) fLenS := fun M G H σ ρ xs ds Q P R rx q hf => by
  unfold fLenS at hf
  split at hf
  · cases rx with
    | cons a r =>
      cases r; cases a
      exact ⟨_, rfl, hf.1, q _ _ G H (Same.refl _) R (.int _) hf.2⟩
  · exact hf.elim
def fIntS : List D → (D → Prop) → Prop := fun ds P => match ds with
  | [.str a] => match PySem.intText? a with
    | some n => a.length ≤ 640 ∧ P (.int n)
    | none => False
  | _ => False
theorem rl_intS : RlC cf (fun xs H Q => ∃ a n, xs = [.str a] ∧ PySem.intText? a = some n ∧ a.length ≤ 640 ∧ Q (.int n) H) fIntS := fun M G H σ ρ xs ds Q P R rx q hf => by
  unfold fIntS at hf
  split at hf
  · next a =>
    cases rx with
    | cons b r =>
      cases r; cases b
      cases e : PySem.intText? a with
      | none => rw [e] at hf; exact hf.elim
      | some n => rw [e] at hf; exact ⟨_, _, rfl, e, hf.1, q _ _ G H (Same.refl _) R (.int _) hf.2⟩
  · exact hf.elim
def fInt1 : List D → (D → Prop) → Prop := fun ds P => match ds with
  | [.int i] => P (.int i)
  | [.bl b] => P (.int (if b then 1 else 0))
  | _ => False
theorem rl_int1 : RlC cf (fun xs H Q => (∃ i, xs = [.int i] ∧ Q (.int i) H) ∨ ∃ k, xs = [.bl k] ∧ Q (.int (if k then 1 else 0)) H) fInt1 := fun M G H σ ρ xs ds Q P R rx q hf => by
  unfold fInt1 at hf
  split at hf
  · cases rx with
    | cons b r =>
      cases r; cases b
      exact .inl ⟨_, rfl, q _ _ G H (Same.refl _) R (.int _) hf⟩
  · cases rx with
    | cons b r =>
      cases r; cases b
      exact .inr ⟨_, rfl, q _ _ G H (Same.refl _) R (.int _) hf⟩
  · exact hf.elim
def fList : List D → (D → Prop) → Prop := fun ds P => match ds with
  | [.lst es] => P (.lst es)
  | [.tup es] => P (.lst es)
  | _ => False
def fTuple : List D → (D → Prop) → Prop := fun ds P => match ds with
  | [.lst es] => P (.tup es)
  | [.tup es] => P (.tup es)
  | _ => False
/-- list(..) as a new thing of one's own -/
theorem f_list {x : Str} {e : Expr} {p pos : Pos} {a : AE} (hg : Gl X x) (hm : X.mg x = none) (hv : bootBuiltins x = some (.type "list")) (ha : Ee X cf W e a) (hn : x ≠ "__name__" := by decide) (hdb : (x == ("__debug__" : Str)) = false := by decide)
    (he : starEach [e] X.env = [(false, eval e X.env)] := by rfl) (hpl : (backTo pos (starEach [] X.env)).any (·.1) = false := by rfl) (hK : X.K = cf.K := by rfl) : Ef X cf W (.Call (.Name x p) [e] [] pos) (aF fList (aCons a aNil)) := PE.imp (pe_callTy call_list_of hg hm hv (pa_cons ha pa_nil he) hn hdb he hpl) fun σ H Q ⟨M, G, ρ, P, Xp, R, q, w, h⟩ => by
  refine ⟨M, G, ρ, _, Xp, R, fun d ρ1 v G1 H1 s1 R1 rd h1 => ?_, w, h⟩
  have h1 : fList [d] fun d => P d ρ1 := h1
  unfold fList at h1
  split at h1
  · next es e =>
    cases e
    cases rd with
    | lst h2 r2 =>
      refine ⟨_, _, rfl, .inl (by rw [hK]; exact sqL_up R1.same h2), fun l nl => ?_⟩
      exact q _ ρ1 l _ G1 _ s1 (R1.mfree nl) upd_same (R1.pin nl) (.lst upd_same r2) h1
  · next es e =>
    cases e
    cases rd with
    | tup h2 r2 =>
      refine ⟨_, _, rfl, .inr (by rw [hK]; exact Cr.Same.sqT R1.same h2), fun l nl => ?_⟩
      exact q _ ρ1 l _ G1 _ s1 (R1.mfree nl) upd_same (R1.pin nl) (.lst upd_same r2) h1
  · exact h1.elim
theorem rl_tuple (hK : X.K = cf.K := by rfl) : RlC cf (fun xs H Q => ∃ p ys, xs = [.ref p] ∧ ((SqL X.K H p ys ∧ ∀ l, H l = none → Q (.ref l) (upd H l (.tup ys))) ∨ (SqT X.K H p ys ∧ Q (.ref p) H))) fTuple := fun M G H σ ρ xs ds Q P R rx q hf => by
  rw [hK]
  unfold fTuple at hf
  split at hf
  · cases rx with
    | cons a r =>
      cases r
      cases a with
      | lst h1 r1 =>
        refine ⟨_, _, rfl, .inl ⟨sqL_up R.same h1, fun l nl => ?_⟩⟩
        obtain ⟨R2, s2, gp⟩ := R.new (o := .tup _) nl
        exact q _ _ _ _ s2 R2 (.tup (ofT gp) (r1.up s2)) hf
  · cases rx with
    | cons a r =>
      cases r
      cases a with
      | tup h1 r1 => exact ⟨_, _, rfl, .inr ⟨Cr.Same.sqT R.same h1, q _ _ G H (Same.refl _) R (.tup h1 r1) hf⟩⟩
  · exact hf.elim
/-- a list of truths -/
def blsD : List D → Option (List Bool)
  | [] => some []
  | .bl b :: r => (blsD r).map (b :: ·)
  | _ :: _ => none
theorem bls_of {G : Hp} : ∀ {vs : List V} {ds : List D} {bs : List Bool}, Rps cf.K cf.cl G vs ds → blsD ds = some bs → vs = bs.map V.bl
  | _, _, _, .nil, h => by cases h; rfl
  | _, _, _, .cons (ds := ds) a r, h => by
    cases a with
    | bl b =>
      simp only [blsD] at h
      cases e : blsD ds with
      | none => rw [e] at h; cases h
      | some bs => rw [e] at h; cases h; rw [bls_of r e]; rfl
    | _ => cases h
def fAll : List D → (D → Prop) → Prop := fun ds P => match ds with
  | [.lst es] => match blsD es with
    | some bs => P (.bl (bs.all id))
    | none => False
  | _ => False
theorem rl_all (hK : X.K = cf.K := by rfl) : RlC cf (rAll X.K) fAll := fun M G H σ ρ xs ds Q P R rx q hf => by
  unfold fAll at hf
  split at hf
  · next es =>
    cases rx with
    | cons a r =>
      cases r
      cases a with
      | lst h1 r1 =>
        cases e : blsD es with
        | none => rw [e] at hf; exact hf.elim
        | some bs =>
          rw [e] at hf
          have := bls_of r1 e
          subst this
          exact ⟨_, bs, rfl, by rw [hK]; exact sqL_up R.same h1, q _ _ G H (Same.refl _) R (.bl _) hf⟩
  · exact hf.elim
def fAbs : List D → (D → Prop) → Prop := fun ds P => match ds with
  | [.int i] => P (.int (if i < 0 then -i else i))
  | _ => False
theorem rl_abs : RlC cf (fun xs H Q => ∃ i, xs = [.int i] ∧ Q (.int (if i < 0 then -i else i)) H) fAbs := fun M G H σ ρ xs ds Q P R rx q hf => by
  unfold fAbs at hf
  split at hf
  · cases rx with
    | cons b r =>
      cases r; cases b
      exact ⟨_, rfl, q _ _ G H (Same.refl _) R (.int _) hf⟩
  · exact hf.elim
def fMax2 : List D → (D → Prop) → Prop := fun ds P => match ds with
  | [.int i, .int j] => P (.int (if j > i then j else i))
  | _ => False
def fMin2 : List D → (D → Prop) → Prop := fun ds P => match ds with
  | [.int i, .int j] => P (.int (if j < i then j else i))
  | _ => False
theorem rl_max2 : RlC cf (fun xs H Q => ∃ i j, xs = [.int i, .int j] ∧ Q (.int (if j > i then j else i)) H) fMax2 := fun M G H σ ρ xs ds Q P R rx q hf => by
  unfold fMax2 at hf
  split at hf
  · cases rx with
    | cons b r =>
      cases r with
      | cons c r => cases r; cases b; cases c; exact ⟨_, _, rfl, q _ _ G H (Same.refl _) R (.int _) hf⟩
  · exact hf.elim
theorem rl_min2 : RlC cf (fun xs H Q => ∃ i j, xs = [.int i, .int j] ∧ Q (.int (if j < i then j else i)) H) fMin2 := fun M G H σ ρ xs ds Q P R rx q hf => by
  unfold fMin2 at hf
  split at hf
  · cases rx with
    | cons b r =>
      cases r with
      | cons c r => cases r; cases b; cases c; exact ⟨_, _, rfl, q _ _ G H (Same.refl _) R (.int _) hf⟩
  · exact hf.elim
/-! ### texts -/
def aM1 (f : Str → D → (D → Prop) → Prop) (a b : AE) : AE := fun ρ P X => a ρ (fun x ρ1 => match x with
  | .str z => b ρ1 (fun y ρ2 => f z y fun d => P d ρ2) X
  | _ => False) X
def RlM (cf : Cf) (r : V → List V → Hp → VK → Prop) (f : Str → D → (D → Prop) → Prop) : Prop := ∀ (M : Fx) (G H : Hp) (σ : L2.St) (ρ : Ev) (z : Str) (y : V) (dy : D) (Q : VK) (P : D → Prop), Rs cf M G H σ ρ → Rp cf.K cf.cl G y dy →
  (∀ d v G' H', Same G G' → Rs cf M G' H' σ ρ → Rp cf.K cf.cl G' v d → P d → Q v H') → f z dy P → r (.str z) [y] H Q
theorem m1_ok {r : V → List V → Hp → VK → Prop} {f : Str → D → (D → Prop) → Prop} {a b : AE} (hr : RlM cf r f) : ∀ σ H Q, γE cf W (aM1 f a b) σ H Q → tM1 r (γE cf W a) (γE cf W b) σ H Q := by
  rintro σ H Q ⟨M, G, ρ, P, Xp, R, q, w, h⟩
  refine ⟨M, G, ρ, _, Xp, R, fun x ρ1 v G1 H1 s1 R1 rx h1 => ?_, w, h⟩
  cases rx with
  | str z =>
    refine ⟨⟨z, rfl⟩, M, G1, ρ1, _, Xp, R1, fun y ρ2 u G2 H2 s2 R2 ry h2 => ?_, w.up s1, h1⟩
    exact hr M G2 H2 σ ρ2 z u y Q _ R2 ry (fun d z G3 H3 s3 R3 rz p => q d ρ2 z G3 H3 ((s1.trans s2).trans s3) R3 rz p) h2
  | _ => exact h1.elim
def strsD : List D → Option (List Str)
  | [] => some []
  | .str b :: r => match strsD r with
    | some ys => some (b :: ys)
    | none => none
  | _ :: _ => none
theorem strs_of {G : Hp} : ∀ {vs : List V} {ds : List D} {bs : List Str}, Rps cf.K cf.cl G vs ds → strsD ds = some bs → vs = bs.map V.str
  | _, _, _, .nil, h => by cases h; rfl
  | _, _, _, .cons (ds := ds) a r, h => by
    cases a with
    | str b =>
      simp only [strsD] at h
      cases e : strsD ds with
      | none => rw [e] at h; cases h
      | some bs => rw [e] at h; cases h; rw [strs_of r e]; rfl
    | _ => cases h
def mJoin : Str → D → (D → Prop) → Prop := fun a y P => match y with
  | .lst es => match strsD es with
    | some ys => (ys.map (·.length)).sum + ys.length * a.length ≤ 16777216 ∧ P (.str (Txt.join a ys))
    | none => False
  | .tup es => match strsD es with
    | some ys => (ys.map (·.length)).sum + ys.length * a.length ≤ 16777216 ∧ P (.str (Txt.join a ys))
    | none => False
  | _ => False
theorem rl_join (hK : X.K = cf.K := by rfl) : RlM cf (fun x xs H Q => ∃ a p, ∃ ys : List Str, x = .str a ∧ xs = [.ref p] ∧ (SqL X.K H p (ys.map V.str) ∨ SqT X.K H p (ys.map V.str)) ∧ (ys.map (·.length)).sum + ys.length * a.length ≤ 16777216 ∧ Q (.str (Txt.join a ys)) H) mJoin := fun M G H σ ρ z y dy Q P R ry q hf => by
  rw [hK]
  unfold mJoin at hf
  split at hf
  · next es =>
    cases ry with
    | lst h1 r1 =>
      cases e : strsD es with
      | none => rw [e] at hf; exact hf.elim
      | some ys =>
        rw [e] at hf
        have := strs_of r1 e
        subst this
        exact ⟨_, _, ys, rfl, rfl, .inl (sqL_up R.same h1), hf.1, q _ _ G H (Same.refl _) R (.str _) hf.2⟩
  · next es =>
    cases ry with
    | tup h1 r1 =>
      cases e : strsD es with
      | none => rw [e] at hf; exact hf.elim
      | some ys =>
        rw [e] at hf
        have := strs_of r1 e
        subst this
        exact ⟨_, _, ys, rfl, rfl, .inr (Cr.Same.sqT R.same h1), hf.1, q _ _ G H (Same.refl _) R (.str _) hf.2⟩
  · exact hf.elim
theorem e_join {o e : Expr} {a b : AE} {apos pos : Pos} (ho : Ee X cf W o a) (he : Ee X cf W e b) (hs : starEach [e] X.env = [(false, eval e X.env)] := by rfl) (hbase : attributeBase o "join" X.env (eval o X.env) = eval o X.env := by rfl) (hline : (apos.endLine == pos.line) = true := by rfl) (hK : X.K = cf.K := by rfl) :
    Ee X cf W (.Call (.Attribute o "join" apos) [e] [] pos) (aM1 mJoin a b) := PE.imp (pe_join ho he hs hbase hline) (m1_ok (rl_join hK))
theorem Rps.strs {K : PySem.W.Frag} {cl : Tb} {G : Hp} : ∀ ys : List Str, Rps K cl G (ys.map V.str) (ys.map D.str)
  | [] => .nil
  | y :: r => .cons (.str y) (Rps.strs r)
def mSplit : Str → D → (D → Prop) → Prop := fun a y P => match y with
  | .str b => ((b.length == 0) = false ∧ a.length + 2 ≤ sizeLine) ∧ P (.lst ((Txt.split a b).map D.str))
  | _ => False
theorem rl_split : RlM cf (fun x xs H Q => ∃ a b, x = .str a ∧ xs = [.str b] ∧ (b.length == 0) = false ∧ a.length + 2 ≤ sizeLine ∧ rNewStrs (Txt.split a b) H Q) mSplit := fun M G H σ ρ z y dy Q P R ry q hf => by
  unfold mSplit at hf
  split at hf
  · cases ry
    refine ⟨_, _, rfl, rfl, hf.1.1, hf.1.2, fun p np => ?_⟩
    obtain ⟨R2, s2, gp⟩ := R.new (o := .lst _) np
    exact q _ _ _ _ s2 R2 (.lst gp (Rps.strs _)) hf.2
  · exact hf.elim
def mPart : Str → D → (D → Prop) → Prop := fun a y P => match y with
  | .str b => ((b.length == 0) = false ∧ a.length ≤ sizeLine) ∧ P (.tup [.str (Txt.partition a b).1, .str (Txt.partition a b).2.1, .str (Txt.partition a b).2.2])
  | _ => False
theorem rl_part : RlM cf (fun x xs H Q => ∃ a b, x = .str a ∧ xs = [.str b] ∧ (b.length == 0) = false ∧ a.length ≤ sizeLine ∧
    ∀ p, H p = none → Q (.ref p) (upd H p (.tup [.str (Txt.partition a b).1, .str (Txt.partition a b).2.1, .str (Txt.partition a b).2.2]))) mPart := fun M G H σ ρ z y dy Q P R ry q hf => by
  unfold mPart at hf
  split at hf
  · cases ry
    refine ⟨_, _, rfl, rfl, hf.1.1, hf.1.2, fun p np => ?_⟩
    obtain ⟨R2, s2, gp⟩ := R.new (o := .tup _) np
    exact q _ _ _ _ s2 R2 (.tup (ofT gp) (.cons (.str _) (.cons (.str _) (.cons (.str _) .nil)))) hf.2
  · exact hf.elim
def mStarts : Str → D → (D → Prop) → Prop := fun a y P => match y with
  | .str b => P (.bl (Txt.startswith a b))
  | _ => False
theorem rl_starts : RlM cf (fun x xs H Q => ∃ a b, x = .str a ∧ xs = [.str b] ∧ Q (.bl (Txt.startswith a b)) H) mStarts := fun M G H σ ρ z y dy Q P R ry q hf => by
  unfold mStarts at hf
  split at hf
  · cases ry
    exact ⟨_, _, rfl, rfl, q _ _ G H (Same.refl _) R (.bl _) hf⟩
  · exact hf.elim
theorem e_split {o e : Expr} {a b : AE} {apos pos : Pos} (ho : Ee X cf W o a) (he : Ee X cf W e b) (hs : starEach [e] X.env = [(false, eval e X.env)] := by rfl) (hbase : attributeBase o "split" X.env (eval o X.env) = eval o X.env := by rfl) (hline : (apos.endLine == pos.line) = true := by rfl) :
    Ee X cf W (.Call (.Attribute o "split" apos) [e] [] pos) (aM1 mSplit a b) := PE.imp (pe_split ho he hs hbase hline) (m1_ok rl_split)
theorem e_part {o e : Expr} {a b : AE} {apos pos : Pos} (ho : Ee X cf W o a) (he : Ee X cf W e b) (hs : starEach [e] X.env = [(false, eval e X.env)] := by rfl) (hbase : attributeBase o "partition" X.env (eval o X.env) = eval o X.env := by rfl) (hline : (apos.endLine == pos.line) = true := by rfl) :
    Ee X cf W (.Call (.Attribute o "partition" apos) [e] [] pos) (aM1 mPart a b) := PE.imp (pe_partition ho he hs hbase hline) (m1_ok rl_part)
theorem e_starts {o e : Expr} {a b : AE} {apos pos : Pos} (ho : Ee X cf W o a) (he : Ee X cf W e b) (hs : starEach [e] X.env = [(false, eval e X.env)] := by rfl) (hbase : attributeBase o "startswith" X.env (eval o X.env) = eval o X.env := by rfl) (hline : (apos.endLine == pos.line) = true := by rfl) :
    Ee X cf W (.Call (.Attribute o "startswith" apos) [e] [] pos) (aM1 mStarts a b) := PE.imp (pe_m1 F.slot_str_startswith F.type_str_startswith mt_startswith ho he hs hbase hline) (m1_ok rl_starts)
/-- a sign in a text -/
def oInS (neg : Bool) : D → D → (D → Prop) → Prop := fun x y P => match x, y with
  | .str ⟨⟨[c]⟩⟩, .str z => P (.bl (if neg then !decide (c ∈ z.cps.toList) else decide (c ∈ z.cps.toList)))
  | _, _ => False
/-- in a list or a tuple of flat things -/
def flatD : D → Bool
  | .non => true | .bl _ => true | .int _ => true | .str _ => true
  | _ => false
def eqF : D → D → Bool
  | .non, .non => true
  | .bl a, .bl b => a == b
  | .bl a, .int b => (if a then 1 else 0) == b
  | .int a, .bl b => a == (if b then 1 else 0)
  | .int a, .int b => a == b
  | .str a, .str b => a == b
  | _, _ => false
def inD (x : D) (ds : List D) : Bool := ds.any fun y => eqF y x
def oIn (neg : Bool) : D → D → (D → Prop) → Prop := fun x y P => match y with
  | .lst ds => (flatD x = true ∧ ds.all flatD = true) ∧ P (.bl (if neg then !inD x ds else inD x ds))
  | .tup ds => (flatD x = true ∧ ds.all flatD = true) ∧ P (.bl (if neg then !inD x ds else inD x ds))
  | _ => False
theorem flat_of {G : Hp} {v : V} {d : D} (r : Rp cf.K cf.cl G v d) (h : flatD d = true) : flatV v = true := by cases r <;> first | rfl | cases h
theorem flats_of {G : Hp} : ∀ {vs : List V} {ds : List D}, Rps cf.K cf.cl G vs ds → ds.all flatD = true → vs.all flatV = true
  | _, _, .nil, _ => rfl
  | _, _, .cons a r, h => by
    simp only [List.all_cons, Bool.and_eq_true] at h ⊢
    exact ⟨flat_of a h.1, flats_of r h.2⟩
theorem eqF_of {G : Hp} {v u : V} {d e : D} (r : Rp cf.K cf.cl G v d) (r' : Rp cf.K cf.cl G u e) (h : flatD d = true) (h' : flatD e = true) : eqV v u = eqF d e := by
  cases r <;> (try (simp [flatD] at h; done)) <;> cases r' <;> first | rfl | (simp [flatD] at h')
theorem in_of {G : Hp} {x : V} {dx : D} (rx : Rp cf.K cf.cl G x dx) (hx : flatD dx = true) : ∀ {vs : List V} {ds : List D}, Rps cf.K cf.cl G vs ds → ds.all flatD = true → inV x vs = inD dx ds
  | _, _, .nil, _ => rfl
  | _, _, .cons a r, h => by
    simp only [List.all_cons, Bool.and_eq_true] at h
    simp only [inV, inD, List.any_cons]
    have := in_of rx hx r h.2
    unfold inV inD at this
    rw [this, eqF_of a rx h.1 hx]
theorem rl_in {neg : Bool} (hK : X.K = cf.K := by rfl) : RlO cf (rIn X.K neg) (oIn neg) := fun M G H σ ρ x y dx dy Q P R rx ry q hf => by
  rw [hK]
  unfold oIn at hf
  split at hf
  · cases ry with
    | lst h1 r1 =>
      obtain ⟨⟨f1, f2⟩, hf⟩ := hf
      rw [← in_of rx f1 r1 f2] at hf
      exact ⟨_, _, rfl, .inl (sqL_up R.same h1), flat_of rx f1, flats_of r1 f2, q _ _ G H (Same.refl _) R (.bl _) hf⟩
  · cases ry with
    | tup h1 r1 =>
      obtain ⟨⟨f1, f2⟩, hf⟩ := hf
      rw [← in_of rx f1 r1 f2] at hf
      exact ⟨_, _, rfl, .inr (Cr.Same.sqT R.same h1), flat_of rx f1, flats_of r1 f2, q _ _ G H (Same.refl _) R (.bl _) hf⟩
  · exact hf.elim
/-! ### isinstance -/
def aIs (g : D → Option Bool) (a : AE) : AE := fun ρ P X => a ρ (fun d ρ1 => match g d with
  | some b => P (.bl b) ρ1
  | none => False) X
def tyS : D → Option String
  | .non => some "NoneType" | .bl _ => some "bool" | .int _ => some "int" | .str _ => some "str" | .lst _ => some "list" | .tup _ => some "tuple" | .dic _ => some "dict"
  | _ => none
theorem ty_of {G H : Hp} {v : V} {d : D} {n : String} (r : Rp cf.K cf.cl G v d) (s : Same G H) (h : tyS d = some n) : TyX cf.K H v (.type n) := by
  cases r with
  | non => cases h; exact .base .non
  | bl b => cases h; exact .base (.bl b)
  | int b => cases h; exact .base (.int b)
  | str b => cases h; exact .base (.str b)
  | lst a _ =>
    cases h
    exact .base (.lst (s _ _ a))
  | tup a _ =>
    cases h
    rcases Cr.Same.sqT s a with z | ⟨o, its, n, e, c, _⟩
    · rcases z with z | ⟨o, z⟩
      · exact .base (.tup z)
      · exact .fTuple z
    · exact .kTuple e c
  | dic a _ =>
    cases h
    rcases Cr.Same.lst s a with z | ⟨o, z⟩
    · exact .base (.dK z)
    · exact .fDict z
  | _ => cases h
def isT (T : String) (d : D) : Option Bool := match tyS d with
  | some n => some (n == T || (n == "bool" && T == "int"))
  | none => none
def IsOk (K : PySem.W.Frag) (cl : Tb) (u : Value) (g : D → Option Bool) : Prop := ∀ (G H : Hp) (v : V) (d : D) (b : Bool), Same G H → Rp K cl G v d → g d = some b → ∃ t, TyX K H v t ∧ PySem.W.kitOne K t u = some b
theorem e_isi {x c : Expr} {g : D → Option Bool} {a : AE} {p pos : Pos} {cv : V} {u : Value} (hg : Gl X "isinstance") (hm : X.mg "isinstance" = none) (hx : Ee X cf W x a) (hc : PE X c (tC cv)) (hu : ClsV cv u) (ok : IsOk cf.K cf.cl u g)
    (he : starEach [x, c] X.env = (false, eval x X.env) :: starEach [c] X.env := by rfl) (he2 : starEach [c] X.env = [(false, eval c X.env)] := by rfl) (hpl : (backTo pos (starEach [c] X.env)).any (·.1) = false := by rfl) (hK : X.K = cf.K := by rfl) :
    Ee X cf W (.Call (.Name "isinstance" p) [x, c] [] pos) (aIs g a) := PE.imp (pe_callB call_isi hg hm (by decide +kernel) (pa_cons hx (pa_cons hc pa_nil he2) he) (by decide) (by decide) he hpl) fun σ H Q ⟨M, G, ρ, P, Xp, R, q, w, h⟩ => by
  refine ⟨M, G, ρ, _, Xp, R, fun d ρ1 v G1 H1 s1 R1 rd h1 => ?_, w, h⟩
  cases e : g d with
  | none => rw [e] at h1; exact h1.elim
  | some b =>
    rw [e] at h1
    obtain ⟨t, ty, k⟩ := ok G1 H1 v d b R1.same rd e
    exact ⟨v, cv, t, u, b, rfl, hu, by rw [hK]; exact ty, by rw [hK]; exact k, q _ ρ1 _ G1 H1 s1 R1 (.bl b) h1⟩
theorem isT_ok {K : PySem.W.Frag} {cl : Tb} {T : String} (h : ∀ n ∈ ["NoneType", "bool", "int", "str", "list", "tuple", "dict"], PySem.W.kitOne K (.type n) (.type T) = some (n == T || (n == "bool" && T == "int"))) : IsOk K cl (.type T) (isT T) := fun G H v d b s r e => by
  unfold isT at e
  cases e2 : tyS d with
  | none => rw [e2] at e; cases e
  | some n =>
    rw [e2] at e
    cases e
    refine ⟨.type n, ty_of (cf := { K := K, cl := cl, O := [], np := 0 }) r s e2, h n ?_⟩
    cases d <;> cases e2 <;> simp
end
end Al

/-! AL7: operators by what stands there, tests, targets with a star, f-strings, defs as wholes. -/
namespace Al
open PySem PySem.Spec PyProof.Rows L2 Cr
section
variable {X : Cx} {cf : Cf} {W : WX}
theorem OpR.or {f : Value → Value → Sem Value} {r r' : R2} (h : OpR X f r) (h' : OpR X f r') : OpR X f (fun x y H Q => r x y H Q ∨ r' x y H Q) := fun pins s σ H x y v u Q I r1 r2 q => by
  rcases q with q | q
  · exact h pins s σ H x y v u Q I r1 r2 q
  · exact h' pins s σ H x y v u Q I r1 r2 q
theorem CallR.or {f : Value} {r r' : List V → Hp → VK → Prop} (h : CallR X f r) (h' : CallR X f r') : CallR X f (fun xs H Q => r xs H Q ∨ r' xs H Q) := fun pins s σ H xs us Q I r1 q => by
  rcases q with q | q
  · exact h pins s σ H xs us Q I r1 q
  · exact h' pins s σ H xs us Q I r1 q
theorem rl_catL : RlO cf rCat oCatL := fun M G H σ ρ x y dx dy Q P R rx ry q hf => by
  unfold oCatL at hf
  split at hf
  · cases rx with
    | lst h1 r1 =>
      cases ry with
      | lst h2 r2 =>
        refine ⟨_, _, _, _, rfl, rfl, R.same _ _ h1, R.same _ _ h2, by rw [r1.len, r2.len]; exact hf.1, fun p np => ?_⟩
        obtain ⟨R2, s2, gp⟩ := R.new (o := .lst _) np
        exact q _ _ _ _ s2 R2 (.lst gp ((r1.app r2).up s2)) hf.2
  · exact hf.elim
/-! ### + -/
def rAddA (K : PySem.W.Frag) : R2 := fun x y H Q => (((rI0 fun i j => .int (i + j)) x y H Q ∨ ∃ i j, x = .str i ∧ y = .str j ∧ i.length + j.length ≤ sizeLine ∧ Q (.str (i ++ j)) H) ∨ rCatA K x y H Q) ∨ rCat x y H Q
theorem op_addA : OpR X (binaryOp .Add) (rAddA X.K) := ((op_add.or op_add_str).or op_catA).or op_cat
def oAddA : D → D → (D → Prop) → Prop := fun x y P => match x with
  | .int _ => oAdd x y P
  | .str _ => oCatS x y P
  | .tup _ => oCatT x y P
  | .lst _ => oCatL x y P
  | _ => False
theorem rl_addA (hK : X.K = cf.K := by rfl) : RlO cf (rAddA X.K) oAddA := fun M G H σ ρ x y dx dy Q P R rx ry q hf => by
  unfold oAddA at hf
  split at hf
  · exact .inl (.inl (.inl (rl_I r_int M G H σ ρ x y _ dy Q P R rx ry q hf)))
  · exact .inl (.inl (.inr (rl_catS M G H σ ρ x y _ dy Q P R rx ry q hf)))
  · exact .inl (.inr (rl_catT hK M G H σ ρ x y _ dy Q P R rx ry q hf))
  · exact .inr (rl_catL M G H σ ρ x y _ dy Q P R rx ry q hf)
  · exact hf.elim
/-! ### * -/
def MulOk (i j : Int) : Prop := CMul i j ∨ CMulW i j
def rMulA : R2 := fun x y H Q => (((rI CMul fun i j => .int (i * j)) x y H Q ∨ (rI CMulW fun i j => .int (i * j)) x y H Q) ∨ rRep x y H Q) ∨ ∃ (z : Str) (n : Int), x = .str z ∧ y = .int n ∧ 2 ≤ n ∧ n ≤ 100000 ∧ 0 < z.length ∧ z.length * n.toNat ≤ sizeLine ∧ Q (.str (repS z n.toNat)) H
theorem op_mulA : OpR X (binaryOp .Mult) rMulA := ((op_mul.or op_mulW).or op_rep).or op_repS
def oMulA : D → D → (D → Prop) → Prop := fun x y P => match x, y with
  | .int i, .int j => MulOk i j ∧ P (.int (i * j))
  | .lst ds, .int k => (-(2 ^ 63) ≤ k ∧ k < 2 ^ 63 ∧ ds.length * k.toNat ≤ sizeLine) ∧ P (.lst (List.replicate k.toNat ds).flatten)
  | .str z, .int n => (2 ≤ n ∧ n ≤ 100000 ∧ 0 < z.length ∧ z.length * n.toNat ≤ sizeLine) ∧ P (.str (repS z n.toNat))
  | _, _ => False
theorem Rps.rep {K : PySem.W.Frag} {cl : Tb} {G : Hp} {vs : List V} {ds : List D} (r : Rps K cl G vs ds) : ∀ n : Nat, Rps K cl G (List.replicate n vs).flatten (List.replicate n ds).flatten
  | 0 => .nil
  | n + 1 => by simp only [List.replicate_succ, List.flatten_cons]; exact r.app (Rps.rep r n)
theorem rl_mulA : RlO cf rMulA oMulA := fun M G H σ ρ x y dx dy Q P R rx ry q hf => by
  unfold oMulA at hf
  split at hf
  · cases rx; cases ry
    rcases hf.1 with c | c
    · exact .inl (.inl (.inl ⟨_, _, rfl, rfl, c, q _ _ G H (Same.refl _) R (.int _) hf.2⟩))
    · exact .inl (.inl (.inr ⟨_, _, rfl, rfl, c, q _ _ G H (Same.refl _) R (.int _) hf.2⟩))
  · cases ry
    cases rx with
    | lst h1 r1 =>
      refine .inl (.inr ⟨_, _, _, rfl, rfl, R.same _ _ h1, hf.1.1, hf.1.2.1, by rw [r1.len]; exact hf.1.2.2, fun p np => ?_⟩)
      obtain ⟨R2, s2, gp⟩ := R.new (o := .lst _) np
      exact q _ _ _ _ s2 R2 (.lst gp ((r1.rep _).up s2)) hf.2
  · cases rx; cases ry
    exact .inr ⟨_, _, rfl, rfl, hf.1.1, hf.1.2.1, hf.1.2.2.1, hf.1.2.2.2, q _ _ G H (Same.refl _) R (.str _) hf.2⟩
  · exact hf.elim
/-! ### items, slices, len -/
def oIx : D → D → (D → Prop) → Prop := fun x y P => match x with
  | .lst _ => oIxL x y P
  | .tup _ => oIxT x y P
  | .str _ => oIxS x y P
  | _ => False
theorem rl_ix (hK : X.K = cf.K := by rfl) : RlO cf (rIx X.K) oIx := fun M G H σ ρ x y dx dy Q P R rx ry q hf => by
  unfold oIx at hf
  split at hf
  · exact .inl (rl_ixL hK M G H σ ρ x y _ dy Q P R rx ry q hf)
  · exact .inr (.inl (rl_ixT hK M G H σ ρ x y _ dy Q P R rx ry q hf))
  · exact .inr (.inr (rl_ixS M G H σ ρ x y _ dy Q P R rx ry q hf))
  · exact hf.elim
def rSlAll (K : PySem.W.Frag) : V → Option Int → Option Int → Hp → VK → Prop := fun x lo hi H Q => (rSlL K x lo hi H Q ∨ rSlA K x lo hi H Q) ∨ rSlS x lo hi H Q
theorem sl_all : SlR X (rSlAll X.K) := (sl_list.or sl_tupA).or sl_str
def slA : D → Option Int → Option Int → (D → Prop) → Prop := fun x lo hi P => match x with
  | .lst _ => slL x lo hi P
  | .scr _ => slL x lo hi P
  | .tup _ => slT x lo hi P
  | .str _ => slS x lo hi P
  | _ => False
theorem rl_slA (hK : X.K = cf.K := by rfl) : RlS cf (rSlAll X.K) slA := fun M G H σ ρ x dx lo hi Q P R rx q hf => by
  unfold slA at hf
  split at hf
  · exact .inl (.inl (rl_slL hK M G H σ ρ x _ lo hi Q P R rx q hf))
  · exact .inl (.inl (rl_slL hK M G H σ ρ x _ lo hi Q P R rx q hf))
  · exact .inl (.inr (rl_slT hK M G H σ ρ x _ lo hi Q P R rx q hf))
  · exact .inr (rl_slS M G H σ ρ x _ lo hi Q P R rx q hf)
  · exact hf.elim
theorem Rks.len {K : PySem.W.Frag} {cl : Tb} {G : Hp} {vs : List (Key × V)} {ds : List (Key × D)} : Rks K cl G vs ds → vs.length = ds.length
  | .nil => rfl
  | .cons _ r => by simp [Rks.len r]
def rLenA (K : PySem.W.Frag) : List V → Hp → VK → Prop := fun xs H Q => ((∃ p ys, xs = [.ref p] ∧ (SqL K H p ys ∨ SqT K H p ys) ∧ Q (.int ys.length) H) ∨ ∃ z, xs = [.str z] ∧ z.length ≤ sizeLine ∧ Q (.int z.length) H) ∨ ∃ a kvs, xs = [V.ref a] ∧ Rd H a (.dK kvs) ∧ Q (.int kvs.length) H
theorem call_lenDR : CallR X (.builtin "len") (fun xs H Q => ∃ a kvs, xs = [V.ref a] ∧ Rd H a (.dK kvs) ∧ Q (.int kvs.length) H) := by
  intro pins s σ H xs us Q I r h
  obtain ⟨a, kvs, rfl, ea, q⟩ := h
  obtain ⟨u, rfl, ru⟩ := vals1 r
  cases ru
  exact d_len I ea fun t s' I' => ⟨.int kvs.length, H, I', ⟨t, rfl⟩, q⟩
theorem call_lenA : CallR X (.builtin "len") (rLenA X.K) := (call_len_seq.or call_len_str).or call_lenDR
def fLenA : List D → (D → Prop) → Prop := fun ds P => match ds with
  | [.lst es] => P (.int (es.length : Nat))
  | [.tup es] => P (.int (es.length : Nat))
  | [.scr es] => P (.int (es.length : Nat))
  | [.str z] => z.length ≤ sizeLine ∧ P (.int (z.length : Nat))
  | [.dic kvs] => P (.int (kvs.length : Nat))
  | _ => False
theorem rl_lenA (hK : X.K = cf.K := by rfl) : RlC cf (rLenA X.K) fLenA := fun M G H σ ρ xs ds Q P R rx q hf => by
  unfold fLenA at hf
  split at hf
  · exact .inl (.inl (rl_len hK M G H σ ρ xs _ Q P R rx q hf))
  · exact .inl (.inl (rl_len hK M G H σ ρ xs _ Q P R rx q hf))
  · exact .inl (.inl (rl_len hK M G H σ ρ xs _ Q P R rx q hf))
  · exact .inl (.inr (rl_lenS M G H σ ρ xs _ Q P R rx q hf))
  · cases rx with
    | cons a r =>
      cases r
      cases a with
      | dic h1 r1 => rw [← r1.len] at hf; exact .inr ⟨_, _, rfl, Cr.Same.lst R.same h1, q _ _ G H (Same.refl _) R (.int _) hf⟩
  · exact hf.elim
/-! ### ==, != -/
def rEqA (K : PySem.W.Frag) : R2 := fun x y H Q => (rEq x y H Q ∨ rEqD K x y H Q) ∨ ∃ (a b : Addr) (xs : List V), x = .ref a ∧ y = .ref b ∧ SqL K H a xs ∧ SqL K H b [] ∧ Q (.bl xs.isEmpty) H
def rNeA (K : PySem.W.Frag) : R2 := fun x y H Q => (rNe x y H Q ∨ rNeD K x y H Q) ∨ ∃ (a b : Addr) (xs : List V), x = .ref a ∧ y = .ref b ∧ SqL K H a xs ∧ SqL K H b [] ∧ Q (.bl (!xs.isEmpty)) H
theorem op_eqA (hu : X.A.units + 64 < cLine) : OpR X (compareOp .Eq) (rEqA X.K) := (op_eq.or (op_eqD hu)).or (op_eqE hu)
theorem op_neA (hu : X.A.units + 64 < cLine) : OpR X (compareOp .NotEq) (rNeA X.K) := (op_ne.or (op_neD hu)).or (op_neE hu)
def oEqA : D → D → (D → Prop) → Prop := fun x y P => match eqS x y with
  | some b => P (.bl b)
  | none => match x, y with
    | .lst ds, .lst [] => P (.bl ds.isEmpty)
    | _, _ => oEqD x y P
def oNeA : D → D → (D → Prop) → Prop := fun x y P => match eqS x y with
  | some b => P (.bl (!b))
  | none => match x, y with
    | .lst ds, .lst [] => P (.bl (!ds.isEmpty))
    | _, _ => oNeD x y P
theorem rl_eqA (hK : X.K = cf.K := by rfl) : RlO cf (rEqA X.K) oEqA := fun M G H σ ρ x y dx dy Q P R rx ry q hf => by
  unfold oEqA at hf
  cases e : eqS dx dy with
  | some b =>
    rw [e] at hf
    exact .inl (.inl (rl_eq M G H σ ρ x y dx dy Q P R rx ry q (by unfold oEq; rw [e]; exact hf)))
  | none =>
    rw [e] at hf
    simp only at hf
    split at hf
    · exact .inr (rl_eqE hK M G H σ ρ x y _ _ Q P R rx ry q hf)
    · exact .inl (.inr (rl_eqD hK M G H σ ρ x y dx dy Q P R rx ry q hf))
theorem rl_neA (hK : X.K = cf.K := by rfl) : RlO cf (rNeA X.K) oNeA := fun M G H σ ρ x y dx dy Q P R rx ry q hf => by
  unfold oNeA at hf
  cases e : eqS dx dy with
  | some b =>
    rw [e] at hf
    exact .inl (.inl (rl_ne M G H σ ρ x y dx dy Q P R rx ry q (by unfold oNe; rw [e]; exact hf)))
  | none =>
    rw [e] at hf
    simp only at hf
    split at hf
    · exact .inr (rl_neE hK M G H σ ρ x y _ _ Q P R rx ry q hf)
    · exact .inl (.inr (rl_neD hK M G H σ ρ x y dx dy Q P R rx ry q hf))
/-! ### in -/
def rInA (K : PySem.W.Frag) (neg : Bool) : R2 := fun x y H Q => rIn K neg x y H Q ∨ ∃ (c : Nat) (z : Str), x = .str ⟨#[c]⟩ ∧ y = .str z ∧ Q (.bl (if neg then !decide (c ∈ z.cps.toList) else decide (c ∈ z.cps.toList))) H
theorem op_inA : OpR X (compareOp .In) (rInA X.K false) := op_in_seq.or op_in_sign
theorem op_notInA : OpR X (compareOp .NotIn) (rInA X.K true) := op_notIn_seq.or op_notIn_sign
def oInA (neg : Bool) : D → D → (D → Prop) → Prop := fun x y P => match y with
  | .lst _ => oIn neg x y P
  | .tup _ => oIn neg x y P
  | .str _ => oInS neg x y P
  | _ => False
theorem rl_inSg {neg : Bool} : RlO cf (fun x y H Q => ∃ (c : Nat) (z : Str), x = .str ⟨#[c]⟩ ∧ y = .str z ∧ Q (.bl (if neg then !decide (c ∈ z.cps.toList) else decide (c ∈ z.cps.toList))) H) (oInS neg) := fun M G H σ ρ x y dx dy Q P R rx ry q hf => by
  unfold oInS at hf
  split at hf
  · cases rx; cases ry
    exact ⟨_, _, rfl, rfl, q _ _ G H (Same.refl _) R (.bl _) hf⟩
  · exact hf.elim
theorem rl_inA {neg : Bool} (hK : X.K = cf.K := by rfl) : RlO cf (rInA X.K neg) (oInA neg) := fun M G H σ ρ x y dx dy Q P R rx ry q hf => by
  unfold oInA at hf
  split at hf
  · exact .inl (rl_in hK M G H σ ρ x y dx _ Q P R rx ry q hf)
  · exact .inl (rl_in hK M G H σ ρ x y dx _ Q P R rx ry q hf)
  · exact .inr (rl_inSg M G H σ ρ x y dx _ Q P R rx ry q hf)
  · exact hf.elim
/-! ### str(x) -/
def rStrA : List V → Hp → VK → Prop := fun xs H Q => (∃ i, xs = [.int i] ∧ i.natAbs.log2 < 1920 ∧ Q (.str (toString i)) H) ∨ ∃ a, xs = [.str a] ∧ Q (.str a) H
theorem call_strA : CallR X (.type "str") rStrA := call_str_int.or SkE.call_str_str
def fStrA : List D → (D → Prop) → Prop := fun ds P => match ds with
  | [.int i] => i.natAbs.log2 < 1920 ∧ P (.str (toString i))
  | [.str a] => P (.str a)
  | _ => False
theorem rl_strA : RlC cf rStrA fStrA := fun M G H σ ρ xs ds Q P R rx q hf => by
  unfold fStrA at hf
  split at hf
  · cases rx with
    | cons a r =>
      cases r; cases a
      exact .inl ⟨_, rfl, hf.1, q _ _ G H (Same.refl _) R (.str _) hf.2⟩
  · cases rx with
    | cons a r =>
      cases r; cases a
      exact .inr ⟨_, rfl, q _ _ G H (Same.refl _) R (.str _) hf⟩
  · exact hf.elim
def rIntA : List V → Hp → VK → Prop := fun xs H Q => ((∃ i, xs = [.int i] ∧ Q (.int i) H) ∨ ∃ k, xs = [.bl k] ∧ Q (.int (if k then 1 else 0)) H) ∨ ∃ a n, xs = [.str a] ∧ PySem.intText? a = some n ∧ a.length ≤ 640 ∧ Q (.int n) H
theorem call_intA : CallR X (.type "int") rIntA := call_int1.or call_int_str
def fIntA : List D → (D → Prop) → Prop := fun ds P => match ds with
  | [.int i] => P (.int i)
  | [.bl b] => P (.int (if b then 1 else 0))
  | [.str _] => fIntS ds P
  | _ => False
theorem rl_intA : RlC cf rIntA fIntA := fun M G H σ ρ xs ds Q P R rx q hf => by
  unfold fIntA at hf
  split at hf
  · exact .inl (rl_int1 M G H σ ρ xs _ Q P R rx q hf)
  · exact .inl (rl_int1 M G H σ ρ xs _ Q P R rx q hf)
  · exact .inr (rl_intS M G H σ ρ xs _ Q P R rx q hf)
  · exact hf.elim
/-! ### tests -/
def truD : D → Option Bool
  | .non => some false
  | .bl b => some b
  | .int i => some (i != 0)
  | .str y => if y.length ≤ sizeLine then some ((y.length : Int) != 0) else none
  | .lst ds => some (!ds.isEmpty)
  | .tup ds => some (!ds.isEmpty)
  | _ => none
def aTr (a : AE) : AT := fun ρ P X => a ρ (fun d ρ1 => match truD d with
  | some b => P b ρ1
  | none => False) X
theorem tru_of {G H : Hp} {v : V} {d : D} {b : Bool} (r : Rp cf.K cf.cl G v d) (s : Same G H) (h : truD d = some b) : TruV cf.K v H b := by
  cases r with
  | non => cases h; rfl
  | bl b => cases h; rfl
  | int i => cases h; rfl
  | str y =>
    simp only [truD] at h
    split at h
    · next c => cases h; exact ⟨c, rfl⟩
    · cases h
  | lst a r => cases h; exact .inl ⟨_, ofL (s _ _ a), by rw [isE r]⟩
  | tup a r => cases h; exact .inr (.inl ⟨_, Cr.Same.sqT s a, by rw [isE r]⟩)
  | _ => cases h
theorem t_truth {e : Expr} {a : AE} (h : Ee X cf W e a) (he : ∀ whole, isTrue e X.env whole = (do let v ← whole; standAt e.pos; holding [v] (truthy v)) := by intro _; rfl) (hK : X.K = cf.K := by rfl) : Et X cf W e (aTr a) := PT.imp (pt_truth h he) fun σ H Q ⟨M, G, ρ, P, Xp, R, q, w, h⟩ => by
  refine ⟨M, G, ρ, _, Xp, R, fun d ρ1 v G1 H1 s1 R1 rd h1 => ?_, w, h⟩
  cases e : truD d with
  | none => rw [e] at h1; exact h1.elim
  | some b => rw [e] at h1; exact ⟨b, by rw [hK]; exact tru_of rd R1.same e, q b ρ1 G1 H1 s1 R1 h1⟩
/-! ### a < b < c -/
def aCh (f g : D → D → (D → Prop) → Prop) (a b c : AE) : AE := fun ρ P X => a ρ (fun x ρ1 => b ρ1 (fun y ρ2 => f x y fun d => match d with
  | .bl true => c ρ2 (fun z ρ3 => g y z fun e => P e ρ3) X
  | .bl false => P (.bl false) ρ2
  | _ => False) X) X
theorem ch_ok {r r' : R2} {f g : D → D → (D → Prop) → Prop} {a b c : AE} (hr : RlO cf r f) (hr' : RlO cf r' g) : ∀ σ H Q, γE cf W (aCh f g a b c) σ H Q → tChain r r' (γE cf W a) (γE cf W b) (γE cf W c) σ H Q := by
  rintro σ H Q ⟨M, G, ρ, P, Xp, R, q, w, h⟩
  refine ⟨M, G, ρ, _, Xp, R, fun x ρ1 v G1 H1 s1 R1 rx h1 => ?_, w, h⟩
  refine ⟨M, G1, ρ1, _, Xp, R1, fun y ρ2 u G2 H2 s2 R2 ry h2 => ?_, w.up s1, h1⟩
  refine hr M G2 H2 σ ρ2 v u x y _ _ R2 (rx.up s2) ry (fun d z G3 H3 s3 R3 rz p => ?_) h2
  have s13 := (s1.trans s2).trans s3
  cases rz with
  | bl k =>
    refine ⟨k, rfl, ?_⟩
    cases k with
    | true =>
      refine ⟨M, G3, ρ2, _, Xp, R3, fun z ρ3 t G4 H4 s4 R4 rt h4 => ?_, w.up s13, p⟩
      exact hr' M G4 H4 σ ρ3 u t y z Q _ R4 ((ry.up s3).up s4) rt (fun d z G5 H5 s5 R5 rz p => q d ρ3 z G5 H5 ((s13.trans s4).trans s5) R5 rz p) h4
    | false => exact q (.bl false) ρ2 _ G3 H3 s13 R3 (.bl _) p
  | _ => exact p.elim
theorem t_chain {op op' : CmpOp} {r r' : R2} {f g : D → D → (D → Prop) → Prop} {x y z : Expr} {a b c : AE} {pos : Pos} (ho : OpR X (compareOp op) r) (ho' : OpR X (compareOp op') r') (hr : RlO cf r f) (hr' : RlO cf r' g) (ha : Ee X cf W x a) (hb : Ee X cf W y b) (hc : Ee X cf W z c)
    (hm : lastMarks [op, op'] [y, z] = false := by with_unfolding_all rfl) : Et X cf W (.Compare x [op, op'] [y, z] pos) (aB (aCh f g a b c)) := PT.imp (pt_chain ho ho' ha hb hc hm) fun σ H Q h => ch_ok hr hr' σ H _ (toB σ H Q h)
/-! ### x op= e -/
def sAug (i : Nat) (f : D → D → (D → Prop) → Prop) (a : AE) : AS := fun A ρ => match sl ρ i with
  | some x => a ρ (fun y ρ1 => f x y fun z => A.nx (ρ1.set i (some z))) A.ex
  | none => False
theorem s_aug {i : Nat} {x : Str} {e : Expr} {op : Operator} {ti : TIp} {f : D → D → (D → Prop) → Prop} {a : AE} {pos pos' : Pos} (hN : X.N.Nodup) (hi : X.N[i]? = some x) (hx : Loc X.env.scope x) (hO : i ∉ cf.O) (he : Ee X cf W e a) (ho : PIp X op ti) (hr : RlO cf ti f) (hf : X.fn x = true ∨ X.env.scope.names.lookup x = some .local := by first | exact .inl rfl | exact .inr rfl | assumption)
    (h : PE X e (γE cf W a) → PS X (.AugAssign (.Name x pos') op e pos) (tAug i (γE cf W a) ti)) : Es X cf W (.AugAssign (.Name x pos') op e pos) (sAug i f a) := PS.imp (h he) fun Dn σ H ⟨M, G, ρ, A, R, q, h⟩ => by
  unfold sAug at h
  cases e0 : sl ρ i with
  | none => rw [e0] at h; exact h.elim
  | some x =>
    rw [e0] at h
    obtain ⟨v, e1, r1⟩ := R.imm i x hO e0
    refine ⟨v, e1, M, G, ρ, _, A.ex, R, fun y ρ1 u G1 H1 s1 R1 ry h1 => ?_, q.ex σ, h⟩
    exact hr M G1 H1 σ ρ1 v u x y _ _ R1 (r1.up s1) ry (fun d z G2 H2 s2 R2 rz p => q.nx _ _ G2 H2 (s1.trans s2) (R2.set hO rz) p) h1
/-! ### a, *b = xs -/
def starD (n i : Nat) (ds : List D) : List D := ds.take i ++ [.lst ((ds.drop i).take (ds.length + 1 - n))] ++ (ds.drop i).drop (ds.length + 1 - n)
def gSt (i : Nat) (is : List Nat) : AG := fun d ρ k => match d with
  | .tup ds => (is.length ≤ ds.length + 1 ∧ ds.length ≤ 16384 ∧ i < is.length) ∧ k (setAll is (starD is.length i ds) ρ)
  | .lst ds => (is.length ≤ ds.length + 1 ∧ ds.length ≤ 16384 ∧ i < is.length) ∧ k (setAll is (starD is.length i ds) ρ)
  | _ => False
theorem star_len {α : Type} (xs : List α) (y : α) (n i : Nat) (h1 : n ≤ xs.length + 1) (h2 : i < n) : (xs.take i ++ [y] ++ (xs.drop i).drop (xs.length + 1 - n)).length = n := by
  simp only [List.length_append, List.length_take, List.length_drop, List.length_cons, List.length_nil]
  omega
theorem g_starL {e : Expr} {i : Nat} {is : List Nat} (h : PG X e (gStarL X.K is.length i (gsN is))) (hO : ∀ j ∈ is, j ∉ cf.O) (hK : X.K = cf.K := by rfl) : Eg X cf e (fun d ρ k => match d with
  | .lst _ => gSt i is d ρ k
  | _ => False) := PG.imp h fun x σ H Q ⟨M, G, ρ, d, P, R, r, q, hk⟩ => by
  cases r with
  | @lst a vs ds hs r =>
    obtain ⟨⟨h1, h2, h3⟩, hk⟩ := hk
    have hl := r.len
    refine ⟨a, vs, rfl, by rw [hK]; exact ofL (R.same _ _ hs), by omega, by omega, fun p np => ?_⟩
    obtain ⟨R2, s2, gp⟩ := R.new (o := .lst ((vs.drop i).take (vs.length + 1 - is.length))) np
    refine gsN_of is _ σ _ Q (star_len vs _ _ i (by omega) h3) ?_
    refine q _ _ _ _ s2 (R2.setAll hO (ds := starD is.length i ds) ?_) hk
    unfold starD
    have r2 := r.up s2
    rw [← hl]
    exact ((r2.take i).app (.cons (.lst gp ((r2.drop i).take _)) .nil)).app ((r2.drop i).drop _)
  | _ => exact hk.elim
/-! ### x[::-1] -/
def oRevL : D → (D → Prop) → Prop := fun x P => match x with
  | .lst ds => P (.lst ds.reverse)
  | _ => False
def oRevT : D → (D → Prop) → Prop := fun x P => match x with
  | .tup ds => P (.tup ds.reverse)
  | _ => False
def oRevS : D → (D → Prop) → Prop := fun x P => match x with
  | .str z => z.length ≤ sizeLine ∧ P (.str (revS z))
  | _ => False
theorem e_revL {e : Expr} {a : AE} {k : Nat} {p1 p2 p3 pos : Pos} (he : Ee X cf W e a) (hK : X.K = cf.K := by rfl) : Ee X cf W (.Subscript e (.Slice none none (some (.UnaryOp .USub (.Constant (.int 1) k p1) p2)) p3) pos) (aU oRevL a) := PE.imp (pe_revL he) (one (r := fun x H1 Q => ∃ a xs, x = .ref a ∧ SqL X.K H1 a xs ∧ ∀ p, H1 p = none → Q (.ref p) (upd H1 p (.lst xs.reverse))) fun M G H σ ρ x dx Q P R rx q hf => by
  unfold oRevL at hf
  split at hf
  · cases rx with
    | lst h1 r1 =>
      refine ⟨_, _, rfl, by rw [hK]; exact sqL_up R.same h1, fun p np => ?_⟩
      obtain ⟨R2, s2, gp⟩ := R.new (o := .lst _) np
      exact q _ _ _ _ s2 R2 (.lst gp (r1.rev.up s2)) hf
  · exact hf.elim)
theorem e_revS {e : Expr} {a : AE} {k : Nat} {p1 p2 p3 pos : Pos} (he : Ee X cf W e a) : Ee X cf W (.Subscript e (.Slice none none (some (.UnaryOp .USub (.Constant (.int 1) k p1) p2)) p3) pos) (aU oRevS a) := PE.imp (pe_revS he) (one (r := fun x H1 Q => ∃ z : Str, x = .str z ∧ z.length ≤ sizeLine ∧ Q (.str (revS z)) H1) fun M G H σ ρ x dx Q P R rx q hf => by
  unfold oRevS at hf
  split at hf
  · cases rx
    exact ⟨_, rfl, hf.1, q _ _ G H (Same.refl _) R (.str _) hf.2⟩
  · exact hf.elim)
/-! ### f-strings -/
def oFmt : D → (D → Prop) → Prop := fun x P => match x with
  | .str y => y.length ≤ sizeLine ∧ P (.str y)
  | .int i => i.natAbs.log2 < 1920 ∧ P (.str (toString i))
  | _ => False
theorem e_fmt {e : Expr} {a : AE} {pos : Pos} (he : Ee X cf W e a) : Ee X cf W (.FormattedValue e (-1) none pos) (aU oFmt a) := PE.imp (pe_fmt he) (one (r := fun x H1 Q => (∃ y : Str, x = .str y ∧ y.length ≤ sizeLine ∧ Q (.str y) H1) ∨ ∃ i : Int, x = .int i ∧ i.natAbs.log2 < 1920 ∧ Q (.str (toString i)) H1) fun M G H σ ρ x dx Q P R rx q hf => by
  unfold oFmt at hf
  split at hf
  · cases rx
    exact .inl ⟨_, rfl, hf.1, q _ _ G H (Same.refl _) R (.str _) hf.2⟩
  · cases rx
    exact .inr ⟨_, rfl, hf.1, q _ _ G H (Same.refl _) R (.str _) hf.2⟩
  · exact hf.elim)
def jGo : List AE → Str → Ev → (Str → Ev → Prop) → XP → Prop
  | [], acc, ρ, P, _ => P acc ρ
  | a :: as, acc, ρ, P, X => a ρ (fun d ρ1 => match d with
    | .str y => (acc ++ y).length ≤ sizeLine ∧ jGo as (acc ++ y) ρ1 P X
    | _ => False) X
def aJ (as : List AE) : AE := fun ρ P X => jGo as Str.empty ρ (fun s ρ1 => P (.str s) ρ1) X
theorem js_ok {M : Fx} {σ : L2.St} {Xp : XP} : ∀ (as : List AE) (acc : Str) (G H : Hp) (ρ : Ev) (P : Str → Ev → Prop) (Q : Str → Hp → Prop), Rs cf M G H σ ρ → (∀ s ρ' G' H', Same G G' → Rs cf M G' H' σ ρ' → P s ρ' → Q s H') → XW cf W M G σ Xp → jGo as acc ρ P Xp → tJs (as.map (γE cf W)) acc σ H Q
  | [], acc, G, H, ρ, P, Q, R, q, w, h => q acc ρ G H (Same.refl _) R h
  | a :: as, acc, G, H, ρ, P, Q, R, q, w, h => by
    refine ⟨M, G, ρ, _, Xp, R, fun d ρ1 v G1 H1 s1 R1 rd h1 => ?_, w, h⟩
    cases rd with
    | str y => exact ⟨y, rfl, h1.1, js_ok as (acc ++ y) G1 H1 ρ1 P Q R1 (fun s ρ' G' H' s2 => q s ρ' G' H' (s1.trans s2)) (w.up s1) h1.2⟩
    | _ => exact h1.elim
theorem e_joined {v1 v2 : Expr} {rest : List Expr} {as : List AE} {pos : Pos} (h : PJ X (v1 :: v2 :: rest) (as.map (γE cf W))) : Ee X cf W (.JoinedStr (v1 :: v2 :: rest) pos) (aJ as) := PE.imp (pe_joined h) fun σ H Q ⟨M, G, ρ, P, Xp, R, q, w, h⟩ =>
  js_ok as Str.empty G H ρ _ _ R (fun s ρ' G' H' s1 R1 p => q (.str s) ρ' _ G' H' s1 R1 (.str s) p) w h
end
end Al
namespace Al
open PySem PySem.Spec PyProof.Rows L2 Cr
section
variable {X : Cx} {cf : Cf} {W : WX}
theorem rl_sub : RlO cf (rI0 fun i j => .int (i - j)) oSub := rl_I r_int
theorem rl_mod : RlO cf (rI (fun _ j => j ≠ 0) fun i j => .int (i.fmod j)) oMod := rl_IC r_int
def DivOk (i j : Int) : Prop := CDivN i j ∨ CDivW i j
abbrev oDivA := fIC DivOk fun i j => .int (i.fdiv j)
theorem op_divA : OpR X (binaryOp .FloorDiv) (rI DivOk fun i j => .int (i.fdiv j)) := fun pins s σ H x y v u Q I rx ry h => by
  obtain ⟨i, j, rfl, rfl, c, q⟩ := h
  rcases c with c | c
  · exact op_fdivN pins s σ H _ _ v u Q I rx ry ⟨i, j, rfl, rfl, c, q⟩
  · refine op_fdivW pins s σ H _ _ v u Q I rx ry ⟨i, j, rfl, rfl, c, ?_⟩
    show Q (.int (i / j)) H
    rw [← Int.fdiv_eq_ediv_of_nonneg _ (Int.le_of_lt c.1)]
    exact q
theorem rl_divA : RlO cf (rI DivOk fun i j => .int (i.fdiv j)) oDivA := rl_IC r_int
theorem rl_pow : RlO cf (rI CPow fun i j => .int (i ^ j.toNat)) oPow := rl_IC r_int
theorem rl_lt : RlO cf (rI0 fun i j => .bl (decide (i < j))) oLt := rl_I r_bl
theorem rl_le : RlO cf (rI0 fun i j => .bl (decide (i ≤ j))) oLe := rl_I r_bl
theorem rl_gt : RlO cf (rI0 fun i j => .bl (decide (j < i))) oGt := rl_I r_bl
theorem rl_ge : RlO cf (rI0 fun i j => .bl (decide (j ≤ i))) oGe := rl_I r_bl
end
end Al

/-! AL8: further rules. -/
namespace Al
open PySem PySem.Spec PyProof.Rows L2 Cr
section
variable {X : Cx} {cf : Cf} {W : WX}
theorem rl_mulW : RlO cf (rI CMulW fun i j => .int (i * j)) oMulW := rl_IC r_int
def gStT (i : Nat) (is : List Nat) : AG := fun d ρ k => match d with
  | .tup _ => gSt i is d ρ k
  | _ => False
def gStL (i : Nat) (is : List Nat) : AG := fun d ρ k => match d with
  | .lst _ => gSt i is d ρ k
  | _ => False
/-- x, y = a, b -/
def sPar (i j : Nat) (a : AA) : AS := fun A ρ => a ρ (fun xs ρ1 => withV xs fun ds => match ds with
  | [x, y] => A.nx ((ρ1.set i (some x)).set j (some y))
  | _ => False) A.ex
theorem s_par {i j : Nat} {st : Stmt} {es : List Expr} {a : AA} (hi : i ∉ cf.O) (hj : j ∉ cf.O) (ha : Ea X cf W es a) (h : PA X es (γA cf W a) → PS X st (tPar i j (γA cf W a))) : Es X cf W st (sPar i j a) := PS.imp (h ha) fun Dn σ H ⟨M, G, ρ, A, R, q, h⟩ => by
  refine ⟨M, G, ρ, _, A.ex, R, fun xs ρ1 vs G1 H1 s1 R1 ra h1 => ?_, q.ex σ, h⟩
  obtain ⟨ds, e, h1⟩ := withV_of h1
  have r := vals_of ra e
  split at h1
  · cases r with
    | cons a1 a2 =>
      cases a2 with
      | cons a3 a4 =>
        cases a4
        exact ⟨_, _, rfl, q.nx _ _ G1 H1 s1 ((R1.set hi a1).set hj a3) h1⟩
  · exact h1.elim
/-! ### isinstance by the written types -/
theorem kit7 {K : PySem.W.Frag} {T : String} (hT : T ∈ ["int", "bool", "str", "tuple", "list", "dict"]) : ∀ n ∈ ["NoneType", "bool", "int", "str", "list", "tuple", "dict"], PySem.W.kitOne K (.type n) (.type T) = some (n == T || (n == "bool" && T == "int")) := by
  intro n hn
  simp only [List.mem_cons, List.not_mem_nil, or_false] at hn hT
  rcases hT with rfl | rfl | rfl | rfl | rfl | rfl <;> rcases hn with rfl | rfl | rfl | rfl | rfl | rfl | rfl <;> rfl
theorem is_int {K : PySem.W.Frag} {cl : Tb} : IsOk K cl (.type "int") (isT "int") := isT_ok (kit7 (by simp))
theorem is_bool {K : PySem.W.Frag} {cl : Tb} : IsOk K cl (.type "bool") (isT "bool") := isT_ok (kit7 (by simp))
theorem is_str {K : PySem.W.Frag} {cl : Tb} : IsOk K cl (.type "str") (isT "str") := isT_ok (kit7 (by simp))
theorem is_tuple {K : PySem.W.Frag} {cl : Tb} : IsOk K cl (.type "tuple") (isT "tuple") := isT_ok (kit7 (by simp))
end
end Al

/-! AL9: keywords, defaults, dicts, repr, sorted. -/
namespace Al
open PySem PySem.Spec PyProof.Rows L2 Cr
section
variable {X : Cx} {cf cg : Cf} {W : WX}
/-! ### sorted -/
def intsD : List D → Option (List Int)
  | [] => some []
  | .int i :: r => match intsD r with
    | some ns => some (i :: ns)
    | none => none
  | _ :: _ => none
/-! ### repr of data -/
def fRepr : List D → (D → Prop) → Prop := fun ds P => match ds with
  | [d] => match pyD d with
    | some p => (p.showable = true ∧ p.depth ≤ 64 ∧ p.shown.length ≤ sizeLine) ∧ P (.str p.shown)
    | none => False
  | _ => False
theorem rl_repr (hK : X.K = cf.K := by rfl) : RlC cf (fun xs H Q => ∃ (v : V) (d : PyData), xs = [v] ∧ Th X.K H v d ∧ d.showable = true ∧ d.depth ≤ 64 ∧ d.shown.length ≤ sizeLine ∧ Q (.str d.shown) H) fRepr := fun M G H σ ρ xs ds Q P R rx q hf => by
  rw [hK]
  unfold fRepr at hf
  split at hf
  · next d =>
    cases rx with
    | cons a r =>
      cases r
      cases e : pyD d with
      | none => rw [e] at hf; exact hf.elim
      | some p =>
        rw [e] at hf
        exact ⟨_, p, rfl, .dp (Al.Dp.up R.same (py_of a e)), hf.1.1, hf.1.2.1, hf.1.2.2, q _ _ G H (Same.refl _) R (.str _) hf.2⟩
  · exact hf.elim
theorem call_reprW (hg : X.A.guards = some [] ∧ X.A.units + 66 < cLine) : CallR X (.builtin "repr") (fun xs H Q => ∃ (v : V) (d : PyData), xs = [v] ∧ Th X.K H v d ∧ d.showable = true ∧ d.depth ≤ 64 ∧ d.shown.length ≤ sizeLine ∧ Q (.str d.shown) H) := call_reprA hg.1 hg.2
/-! ### dicts -/
def keyD : D → Option Key
  | .int i => some (.inl i)
  | .str z => some (.inr z)
  | _ => none
/-- {k: e, ..}, the keys written and apart -/
def dGo : List (Key × AE) → Ev → (List (Key × D) → Ev → Prop) → XP → Prop
  | [], ρ, P, _ => P [] ρ
  | (k, a) :: r, ρ, P, X => a ρ (fun d ρ1 => dGo r ρ1 (fun kvs ρ2 => P ((k, d) :: kvs) ρ2) X) X
def aDisp (kas : List (Key × AE)) : AE := fun ρ P X => dGo kas ρ (fun kvs ρ1 => P (.dic kvs) ρ1) X
/-! ### keywords and defaults -/
theorem PK.imp {kws : List Keyword} {t t' : TA} (h : PK X kws t) (i : ∀ σ H Q, t' σ H Q → t σ H Q) : PK X kws t' := ⟨fun pos pins s σ H Q I q => h.run pos pins s σ H Q I (i σ H Q q)⟩
abbrev Ek (X : Cx) (cf : Cf) (W : WX) (kws : List Keyword) (a : AA) : Prop := PK X kws (γA cf W a)
theorem k_nil : Ek X cf W [] aNil := PK.imp pk_nil fun σ H Q ⟨M, G, ρ, P, Xp, R, q, _, a⟩ => q [] ρ [] G H (Same.refl _) R .nil a
theorem k_cons {nm : Option Str} {e : Expr} {kpos : Pos} {kws : List Keyword} {a : AE} {r : AA} (ha : Ee X cf W e a) (hr : Ek X cf W kws r) : Ek X cf W (⟨nm, e, kpos⟩ :: kws) (aCons a r) := PK.imp (pk_cons ha hr) fun σ H Q ⟨M, G, ρ, P, Xp, R, q, w, h⟩ => by
  refine ⟨M, G, ρ, _, Xp, R, fun d ρ1 v G1 H1 s1 R1 rd h1 => ?_, w, h⟩
  refine ⟨M, G1, ρ1, _, Xp, R1, fun ds ρ2 vs G2 H2 s2 R2 rds h2 => ?_, w.up s1, h1⟩
  exact q _ ρ2 _ G2 H2 (s1.trans s2) R2 (.val (rd.up s2) rds) h2
/-- a call that lets out nothing, by keywords: gD puts the values in the parameters' order -/
def aCallK (n m : Nat) (F : AF0) (gD : List D → List D → List D) (a k : AA) : AE := fun ρ P X => a ρ (fun xs ρ1 => withV xs fun ds => k ρ1 (fun ys ρ2 => withV ys fun es => match Nat.beq ds.length n && Nat.beq es.length m with
  | true => F (gD ds es) (fun d => P d ρ2) X
  | false => False) X) X
def GOk (gV : List V → List V → List V) (gD : List D → List D → List D) : Prop := ∀ (K : PySem.W.Frag) (cl : Tb) (G : Hp) (vs zs : List V) (ds es : List D), Rps K cl G vs ds → Rps K cl G zs es → Rps K cl G (gV vs zs) (gD ds es)
/-- f(e, ..), what lacks by defaults -/
def aCallD (dd : List D) (F : AF0) (a : AA) : AE := fun ρ P X => a ρ (fun xs ρ1 => withV xs fun ds => F (ds ++ dd) (fun d => P d ρ1) X) X
end
end Al

/-! CrK: what stands at the module's top: tuples of texts, dicts by texts, defs with keyword-only parameters. -/
namespace Al
open PySem PySem.Spec PyProof.Rows L2 Cr
/-- a tuple of texts -/
structure TupG (K : PySem.W.Frag) (mg : Str → Option Value) (x : Str) (zs : List Str) where
  a : Addr
  mg : mg x = some (.ref a)
  sq : ∀ H, SqT K H a (zs.map V.str)
theorem TupG.rp {K : PySem.W.Frag} {mg : Str → Option Value} {x : Str} {zs : List Str} (g : TupG K mg x zs) {cl : Tb} {G : Hp} : Rp K cl G (.ref g.a) (.tup (zs.map D.str)) := .tup (g.sq G) (Rps.strs zs)
/-- a dict by texts -/
inductive KeysAre : List DictEntry → List Str → Prop
  | nil : KeysAre [] []
  | cons {e : DictEntry} {k : Str} {t : Tok} {es : List DictEntry} {ks : List Str} : e.key = .str k t → KeysAre es ks → KeysAre (e :: es) (k :: ks)
structure KdG (w : World) (K : PySem.W.Frag) (mg : Str → Option Value) (x : Str) (ks : List Str) where
  d : Addr
  es : Array DictEntry
  n : Nat
  kd : KDict K w d es n
  mg : mg x = some (.ref d)
  ks : KeysAre es.toList ks
theorem keys_find : ∀ {es : List DictEntry} {ks : List Str} (z : Str), KeysAre es ks → (es.find? (·.key.isStr z)).isSome = ks.contains z ∧ es.any (·.refKey) = false
  | _, _, z, .nil => ⟨rfl, rfl⟩
  | _, _, z, .cons (e := e) (k := k) (es := es) (ks := ks) h r => by
    have ih := keys_find z r
    have e1 : e.key.isStr z = (k == z) := by rw [h]; rfl
    have e2 : e.refKey = false := by unfold DictEntry.refKey; rw [h]
    refine ⟨?_, by simp only [List.any_cons, e2, ih.2, Bool.or_self]⟩
    rw [List.find?_cons]
    by_cases c : k = z
    · rw [e1, show (k == z) = true by simp [c]]
      simp [c]
    · have c1 : (k == z) = false := by simp [c]
      rw [e1, c1]
      simp only
      rw [ih.1, List.contains_cons]
      have : (z == k) = false := by simp [Ne.symm c]
      rw [this, Bool.false_or]
theorem KdG.ns {w : World} {K : PySem.W.Frag} {mg : Str → Option Value} {x : Str} {ks : List Str} (g : KdG w K mg x ks) (z : Str) : ∃ r, PySem.W.nsIn K g.d z = some r ∧ r.isSome = ks.contains z := by
  obtain ⟨h1, h2⟩ := keys_find z g.ks
  unfold PySem.W.nsIn
  rw [g.kd.at_]
  simp only
  cases e : g.es.toList.find? (·.key.isStr z) with
  | some en => rw [e] at h1; exact ⟨_, rfl, h1⟩
  | none => rw [e] at h1; rw [h2]; exact ⟨_, rfl, h1⟩
section
variable {X : Cx} {cf : Cf} {W : WX}
end
/-- a def with one keyword-only parameter (the last), a number by default -/
structure FkAt (K : PySem.W.Frag) (mg : Str → Option Value) (x qual : Str) (st : Stmt) (ps : List Str) (n : Nat) (kn : Str) (dv : Int) where
  f : Addr
  fd : FuncData
  F : Fun K x qual st f fd
  mg : mg x = some (.ref f)
  kb : KBn K fd ps n [kn] (fun us ws => us ++ ws) (fun vs zs => vs ++ zs)
  du : Value
  dr : RelV (.int dv) du
  db : Binds K fd ps [du]
theorem gok_app : GOk (fun vs zs => vs ++ zs) (fun ds es => ds ++ es) := fun _ _ _ _ _ _ _ r1 r2 => r1.app r2
end Al

/-! AL10: further rules. -/
namespace Al
open PySem PySem.Spec PyProof.Rows L2 Cr
section
variable {X : Cx} {cf cg : Cf} {W : WX}
theorem XW.pin {M : Fx} {G : Hp} {σ : L2.St} {Xp : XP} {p : Addr} {o : HO} (w : XW cf W M G σ Xp) (mp : M.m p = none) : XW cf W (M.up p o) G σ Xp := fun x cls dx G' H' s1 s2 hm xr hx => w x cls dx G' H' s1 s2 ⟨fun b u e => hm.1 b u (by rw [Fx.up_ne (fun c => by rw [c, mp] at e; cases e)]; exact e), hm.2.unpin mp⟩ xr hx
/-- x, y = (two new things of one's own) -/
def sParO (i j : Nat) (a b : AE) : AS := fun A ρ => a ρ (fun d ρ1 => b ρ1 (fun e ρ2 => A.nx ((ρ2.set i (some d)).set j (some e))) A.ex) A.ex
end
end Al

/-! AL11: defs that hand back something new. -/
namespace Al
open PySem PySem.Spec PyProof.Rows L2 Cr
def LiftF0 (cf : Cf) (F : AF0) : Sp := fun vs H Q E => ∃ (m G : Hp) (ds : List D) (P : D → Prop) (X : XP), Rs cf (NoPi m) G H (vs.map some) (ds.map some) ∧ F ds P X ∧
  (∀ d p G' H', Same G G' → Same G' H' → (∀ b o, m b = some o → H' b = some o ∧ G' b = none) → m p = none → G' p = none → RpO cf.K cf.cl G' H' p d → P d → Q (.ref p) H') ∧
  ∀ x cls dx G' H', Same G G' → Same G' H' → (∀ b o, m b = some o → H' b = some o ∧ G' b = none) → XR cf.K cf.cl G' cls dx x → X x → E cls dx H'
def LiftF (cf : Cf) (F : AF0) : Sp := LiftF0 cf.noT F
theorem LiftF.to0 {cf : Cf} {F : AF0} {vs : List V} {H : Hp} {Q : VK} {E : XK} (hT : cf.T = []) (h : LiftF cf F vs H Q E) : LiftF0 cf F vs H Q E := by
  unfold LiftF at h
  rwa [Cf.noT_eq hT] at h
theorem LiftF.len {cf : Cf} {F : AF0} {n : Nat} (h : ∀ ds P X, F ds P X → ds.length = n) (vs : List V) (H : Hp) (Q : VK) (E : XK) (l : LiftF cf F vs H Q E) : vs.length = n := by
  obtain ⟨m, G, ds, P, X, R, hF, _⟩ := l
  have := R.len
  rw [List.length_map, List.length_map] at this
  rw [this]
  exact h ds P X hF
theorem units66 {A : Around} {k : Nat} (hr : Room k A) : A.units + 66 < cLine := by have := hr.un; omega
section
variable {X : Cx} {cf cg : Cf} {W : WX}
/-- a body of one statement: return (something new) -/
theorem bodyF {E : XK} {H : Hp} {vs : List V} {Q : VK} {F : AF0} {N : List Str} {k n : Nat} {a : AE} (hlen : ∀ ds P X, F ds P X → ds.length = n) (hF : ∀ ds P X, F ds P X → sRet a (endP P NX) (ds.map some ++ List.replicate k none)) (hk : N.length - n = k)
    (h : LiftF cf F vs H Q E) (hT : cf.T = [] := by rfl) : (fun (Dn : Ends) σ H => γF cf W a σ H Dn.rt) { nx := fun _ H' => Q .non H', rt := Q } (start N vs) H := by
  have h := h.to0 hT
  obtain ⟨m, G, ds, P, Xp, R, hf, q, qx⟩ := h
  have hd : ds.length = n := hlen ds _ _ hf
  have hl : vs.length = n := by
    have := R.len
    rw [List.length_map, List.length_map] at this
    rw [this]; exact hd
  have R2 := R.start (N := N) (k := k) (by rw [hl]; exact hk)
  refine ⟨NoPi m, G, _, fun d _ => P d, NX, R2, fun d ρ' p o G' H' s n ho R1 rd hP => ?_, fun x cls dx G' H' s1 s2 hm xr hx => hx.elim, hF ds _ _ hf⟩
  refine q d p G' H' s R1.same (fun b u e => ?_) n (R1.mem p o Fx.up_same).2 rd hP
  refine R1.mem b u ?_
  rw [Fx.up_ne (fun c => by rw [c] at e; exact absurd (e.symm.trans n) (by simp))]
  exact e
theorem lift0F {F : AF0} {M : Fx} {G H : Hp} {σ : L2.St} {ρ : Ev} {P : D → Ev → Prop} {Xp : XP} {Q : VK} {vs : List V} {ds : List D} {n : Nat} (hlen : ∀ ds P X, F ds P X → ds.length = n) (hp : ∀ i ∈ cg.O, n ≤ i) (hK : cg.K = cf.K) (hc : cg.cl = cf.cl)
    (R : Rs cf M G H σ ρ) (r : Rps cf.K cf.cl G vs ds) (q : QF cf M G σ P Q) (w : XW cf W M G σ Xp) (h : F ds (fun d => P d ρ) Xp) : LiftF cg F vs H Q (WE W σ) := by
  have hd := hlen ds _ _ h
  have hO : ∀ i d, i ∈ cg.O → sl (ds.map some) i = some d → False := fun i d hi e => by
    have := sl_lt e
    rw [List.length_map, hd] at this
    have := hp i hi
    omega
  refine ⟨outG G H noA, G, ds, fun d => P d ρ, Xp, ⟨R.same, fun b o (e : outG G H noA b = some o) => ⟨(outG_of e).1, (outG_of e).2.1⟩, by simp [r.len], fun i d hi e => ?_, fun i d hi e => (hO i d hi e).elim, fun i j d e a hi hj z1 => (hO i d hi z1).elim, fun i a e => (nomatch e), TabOk.nil⟩, h, fun d p G' H' s1 s2 hm mp gp rd hP => ?_, w.call R (fun _ _ _ z => z) (fun _ _ _ _ z => z) hK hc⟩
  · rw [hK, hc]; exact r.sl e
  · rw [hK, hc] at rd
    have R3 : Rs cf M G' H' σ ρ := R.after (no := noA) s1 s2 hm (fun _ _ _ z => z) (fun _ _ _ _ _ _ z => z) (fun _ _ _ _ z => z)
    have out : ∀ b o, H b = some o → b ≠ p := fun b o e c => by
      subst c
      cases g : G b with
      | none => rw [outG_to e g (fun z => z)] at mp; cases mp
      | some u => rw [s1 _ _ g] at gp; cases gp
    have mpM : M.m p = none := by
      cases z : M.m p with
      | none => rfl
      | some o => exact absurd rfl (out p o (R.mem p o z).1)
    obtain ⟨o, ho⟩ := rd.there
    refine q d ρ p o G' H' s1 mpM ho ⟨R3.same, fun b u e => ?_, R3.len, R3.imm, fun i d hi e => ?_, R3.dis, R3.par, R3.tab.pin ho (mut_own rd ho)⟩ rd hP
    · by_cases c : b = p
      · subst c
        rw [Fx.up_same] at e
        cases e
        exact ⟨ho, gp⟩
      · rw [Fx.up_ne c] at e
        exact R3.mem b u e
    · obtain ⟨b, w1, w2, w3, w4⟩ := R3.own i d hi e
      obtain ⟨b', v1, _, _, v4⟩ := R.own i d hi e
      rw [w1] at v1; cases v1
      obtain ⟨u, hu⟩ := v4.there
      exact ⟨b, w1, w2, by rw [Fx.up_ne (out b u hu)]; exact w3, w4⟩
theorem f_call {f : Addr} {x : Str} {e : Expr} {es : List Expr} {p pos : Pos} {F : AF0} {a : AA} {n : Nat} (Rn : RunR X f (LiftF cg F) W) (hlen : ∀ ds P X, F ds P X → ds.length = n) (hp : ∀ i ∈ cg.O, n ≤ i) (hg : Gl X x) (hm : X.mg x = some (.ref f)) (hk : PySem.W.keepIn X.K (.ref f) = true) (ha : Ea X cf W (e :: es) a)
    (hK : cg.K = cf.K := by rfl) (hc : cg.cl = cf.cl := by rfl) (hdb : (x == ("__debug__" : Str)) = false := by decide) (he : starEach (e :: es) X.env = (false, eval e X.env) :: starEach es X.env := by rfl) (hpl : (backTo pos (starEach es X.env)).any (·.1) = false := by rfl) :
    Ef X cf W (.Call (.Name x p) (e :: es) [] pos) (aCall F a) := PE.imp (pe_run Rn hg hm hk ha hdb he hpl) fun σ H Q ⟨M, G, ρ, P, Xp, R, q, w, h⟩ => by
  refine ⟨M, G, ρ, _, Xp, R, fun xs ρ1 vs G1 H1 s1 R1 ra h1 => ?_, w, h⟩
  obtain ⟨ds, e, h1⟩ := withV_of h1
  exact lift0F hlen hp hK hc R1 (vals_of ra e) (fun d ρ' p o G' H' s => q d ρ' p o G' H' (s1.trans s)) (w.up s1) h1
end
end Al

/-! AL12: the end of a law over the plain layer. -/
namespace Al
open PySem PySem.Spec PyProof.Rows L2 Cr
def spLaw (K : PySem.W.Frag) : Sp := fun vs H Q _ => ∃ (a : Addr) (ns : List Int), vs = [.ref a] ∧ SqL K H a (ns.map V.int) ∧ ns.length ≤ 63 ∧ ∀ H', Q (.bl true) H'
theorem lift_law {cf : Cf} {F : AF0} (hO : 0 ∉ cf.O) (hp : ∀ ns : List Int, ns.length ≤ 63 → F [.scr ns] (fun d => d = .bl true) NX) {vs : List V} {H : Hp} {Q : VK} {E : XK} (h : spLaw cf.K vs H Q E) : Lift cf (af0 F) vs H Q E := by
  obtain ⟨a, ns, rfl, hS, hl, q⟩ := h
  have hi : ∀ i d, sl ([D.scr ns].map some) i = some d → i = 0 ∧ d = .scr ns := fun i d e => by
    cases i with
    | zero => cases e; exact ⟨rfl, rfl⟩
    | succ i => cases e
  refine ⟨fun _ => none, H, [.scr ns], fun d _ => d = .bl true, NX, ⟨Same.refl _, fun b o e => (nomatch e), rfl, fun i d hn e => ?_, fun i d hn e => ?_, fun i j d e b hn hm z1 z2 _ _ => ?_, fun i b e => (nomatch e), TabOk.nil⟩, hp ns hl, fun d ds' v G' H' s R r e => ?_, fun x cls dx G' H' s1 s2 hm xr hx => hx.elim⟩
  · obtain ⟨rfl, rfl⟩ := hi i d e
    exact ⟨_, rfl, .scr hS⟩
  · obtain ⟨rfl, rfl⟩ := hi i d e
    exact absurd hn hO
  · rw [(hi i d z1).1, (hi j e z2).1]
  · subst e
    cases r
    exact q H'
theorem FnG.weak {P : Program} {w : World} {K : PySem.W.Frag} {mg : Str → Option Value} {base : Heap} {CX : CXT} {k : Nat} {f : Addr} {fd : FuncData} {ps : List Str} {sp sp' : Sp} (F : FnG P w K mg base CX k f fd ps sp) (h : ∀ vs H Q E, sp' vs H Q E → sp vs H Q E) : FnG P w K mg base CX k f fd ps sp' :=
  ⟨fun vs H Q E q => F.len vs H Q E (h _ _ _ _ q), fun A outer s H args us vs Q E hr gd e b v q => F.run A outer s H args us vs Q E hr gd e b v (h _ _ _ _ q)⟩
end Al

/-! AL13: d.get(k, x), l.index(x), t == (), text * 0 or 1. -/
namespace Cr
open PySem L2
section
variable {X : Cx}
theorem op_repS1 : OpR X (binaryOp .Mult) (fun x y H Q => ∃ (z : Str) (n : Int), x = .str z ∧ y = .int n ∧ (n = 0 ∨ n = 1) ∧ Q (.str (if n = 0 then Str.empty else z)) H) := by
  intro pins s σ H x y v u Q I rx ry h
  obtain ⟨z, n, rfl, rfl, h1, q⟩ := h
  obtain ⟨t, rfl⟩ := rx
  obtain ⟨t', rfl⟩ := ry
  rcases h1 with rfl | rfl
  · refine PySem.P.mul_str (by simp) (fun h _ => absurd h (by decide)) (fun h _ => absurd h (by decide)) ?_
    rw [if_pos (by decide)]
    exact ⟨by decide, .str _, H, I.tok _, ⟨_, rfl⟩, q⟩
  · refine PySem.P.mul_str (by simp) (fun _ h => absurd h (by simp)) (fun _ h => absurd h (by simp)) ?_
    rw [if_neg (by decide), if_pos (by simp)]
    exact ⟨.str _, H, I, ⟨_, rfl⟩, q⟩
end
end Cr
namespace Al
open PySem L2 Cr
section
variable {X : Cx} {cf : Cf} {W : WX}
/-! ### t == (), t != () -/
def oEqT : D → D → (D → Prop) → Prop := fun x y P => match x, y with
  | .tup ds, .tup [] => P (.bl ds.isEmpty)
  | _, _ => False
def oNeT : D → D → (D → Prop) → Prop := fun x y P => match x, y with
  | .tup ds, .tup [] => P (.bl (!ds.isEmpty))
  | _, _ => False
/-! ### a, b, c = x, y, z -/
def sPar3 (i j l : Nat) (a : AA) : AS := fun A ρ => a ρ (fun xs ρ1 => withV xs fun ds => match ds with
  | [x, y, z] => A.nx (((ρ1.set i (some x)).set j (some y)).set l (some z))
  | _ => False) A.ex
theorem s_par3 {i j l : Nat} {st : Stmt} {es : List Expr} {a : AA} (hi : i ∉ cf.O) (hj : j ∉ cf.O) (hl : l ∉ cf.O) (ha : Ea X cf W es a) (h : PA X es (γA cf W a) → PS X st (tPar3 i j l (γA cf W a))) : Es X cf W st (sPar3 i j l a) := PS.imp (h ha) fun Dn σ H ⟨M, G, ρ, A, R, q, h⟩ => by
  refine ⟨M, G, ρ, _, A.ex, R, fun xs ρ1 vs G1 H1 s1 R1 ra h1 => ?_, q.ex σ, h⟩
  obtain ⟨ds, e, h1⟩ := withV_of h1
  have r := vals_of ra e
  split at h1
  · cases r with
    | cons a1 a2 =>
      cases a2 with
      | cons a3 a4 =>
        cases a4 with
        | cons a5 a6 =>
          cases a6
          exact ⟨_, _, _, rfl, q.nx _ _ G1 H1 s1 (((R1.set hi a1).set hj a3).set hl a5) h1⟩
  · exact h1.elim
end
end Al

/-! AL14: what is never reached; comprehensions of two sources. -/
namespace Al
open PySem L2 Cr
section
variable {X : Cx} {cf : Cf} {W : WX}
/-! ### what is never reached -/
def sDead : AS := fun _ _ => False
theorem s_dead {st : Stmt} : Es X cf W st sDead := ⟨fun pins s σ H Dn I h => by obtain ⟨M, G, ρ, A, R, q, h⟩ := h; exact h.elim⟩
end
end Al

/-! AL15: defs whose parameter number j is changed in place. -/
namespace Al
open PySem L2 Cr
def atjs (j : Nat) (ρ : Ev) (k : D → Prop) : Prop := match sl ρ j with
  | some o => k o
  | none => False
def endJ (j : Nat) (P : D → D → Prop) (X : XP) : AK := ⟨fun ρ => atjs j ρ (P .non), fun d ρ => atjs j ρ (P d), fun _ => False, fun _ => False, X⟩
section
variable {X : Cx} {cf cg : Cf} {W : WX}
theorem RpA.split {G : Hp} {σ : L2.St} : ∀ {j i : Nat} {vs : List V} {xs : List Ar}, RpA cf G σ vs xs → xs[j]? = some (.inr i) → ∃ v vs', σ[i]? = some (some v) ∧ RpA cf G σ vs' (xs.eraseIdx j) ∧ vs = vs'.take j ++ v :: vs'.drop j ∧ j ≤ vs'.length
  | _, _, _, _, .nil, h => by simp at h
  | 0, i, _, _, .val a r, h => by simp at h
  | 0, i, _, _, .own (vs := vs) (v := v) a r, h => by
    simp only [List.getElem?_cons_zero, Option.some.injEq, Sum.inr.injEq] at h
    subst h
    exact ⟨v, vs, a, r, rfl, Nat.zero_le _⟩
  | j + 1, i, _, _, .val (v := u) a r, h => by
    simp only [List.getElem?_cons_succ] at h
    obtain ⟨v, vs', h1, h2, h3, h4⟩ := RpA.split r h
    exact ⟨v, u :: vs', h1, .val a h2, by rw [h3]; rfl, by simp; omega⟩
  | j + 1, i, _, _, .own (v := u) a r, h => by
    simp only [List.getElem?_cons_succ] at h
    obtain ⟨v, vs', h1, h2, h3, h4⟩ := RpA.split r h
    exact ⟨v, u :: vs', h1, .own a h2, by rw [h3]; rfl, by simp; omega⟩
def withJ (i j : Nat) (xs : List Ar) (k : List D → Prop) : Prop := xs[j]? = some (.inr i) ∧ withV (xs.eraseIdx j) k
def aCallJ (i j : Nat) (F : AFo) (a : AA) : AE := fun ρ P X => a ρ (fun xs ρ1 => withJ i j xs fun ds => match sl ρ1 i with
  | some o => F o ds (fun d o' => P d (ρ1.set i (some o'))) X
  | none => False) X
end
end Al

/-! AL16: comprehensions over a dict's keys (the dict is locked within). -/
namespace Al
open PySem L2 Cr
/-- alike but for locks of dicts -/
def Sim (G G' : Hp) : Prop := ∀ b u, G b = some u → G' b = some u ∨ (∃ kvs o, u = .dK kvs ∧ G' b = some (.frz o (.dK kvs))) ∨ ∃ kvs o, u = .frz o (.dK kvs) ∧ G' b = some (.dK kvs)
theorem Sim.rd {G G' : Hp} {a : Addr} {u : HO} (s : Sim G G') (n1 : ∀ kvs, u ≠ .dK kvs) (n2 : ∀ o kvs, u ≠ .frz o (.dK kvs)) (h : Rd G a u) : Rd G' a u := by
  rcases h with h | ⟨o, h⟩
  · rcases s _ _ h with e | ⟨k, o, e1, e2⟩ | ⟨k, o, e1, e2⟩
    · exact .inl e
    · exact absurd e1 (n1 k)
    · exact absurd e1 (n2 o k)
  · rcases s _ _ h with e | ⟨k, o, e1, e2⟩ | ⟨k, o, e1, e2⟩
    · exact .inr ⟨_, e⟩
    · cases e1
    · cases e1; exact absurd rfl (n1 k)
theorem Sim.at {G G' : Hp} {a : Addr} {u : HO} (s : Sim G G') (n1 : ∀ kvs, u ≠ .dK kvs) (n2 : ∀ o kvs, u ≠ .frz o (.dK kvs)) (h : G a = some u) : G' a = some u := by
  rcases s _ _ h with e | ⟨k, o, e1, e2⟩ | ⟨k, o, e1, e2⟩
  · exact e
  · exact absurd e1 (n1 k)
  · exact absurd e1 (n2 o k)
section
variable {K : PySem.W.Frag} {cl : Tb} {G G' : Hp}
theorem Sim.lst {a : Addr} {vs : List V} (s : Sim G G') (h : G a = some (.lst vs)) : G' a = some (.lst vs) := s.at (fun _ z => by cases z) (fun _ _ z => by cases z) h
theorem Sim.ins {a c d : Addr} {fs : List (Str × V)} (s : Sim G G') (h : G a = some (.ins c d fs)) : G' a = some (.ins c d fs) := s.at (fun _ z => by cases z) (fun _ _ z => by cases z) h
theorem Sim.sqL {a : Addr} {vs : List V} (s : Sim G G') (h : SqL K G a vs) : SqL K G' a vs := by
  rcases h with h | h
  · exact .inl (s.rd (fun _ z => by cases z) (fun _ _ z => by cases z) h)
  · exact .inr h
theorem Sim.sqT {a : Addr} {vs : List V} (s : Sim G G') (h : SqT K G a vs) : SqT K G' a vs := by
  rcases h with h | h
  · exact .inl (s.rd (fun _ z => by cases z) (fun _ _ z => by cases z) h)
  · exact .inr h
end
section
variable {X : Cx} {cf : Cf} {W : WX}
theorem Rks.keys {K : PySem.W.Frag} {cl : Tb} {G : Hp} : ∀ {vs : List (Key × V)} {ds : List (Key × D)}, Rks K cl G vs ds → vs.map (·.1) = ds.map (·.1)
  | _, _, .nil => rfl
  | _, _, .cons _ r => by simp [Rks.keys r]
end
end Al

/-! AL17: [.. for k in d], {.. for k in d}, d a name. -/
namespace Al
open PySem L2 Cr
section
variable {X : Cx} {cf : Cf} {W : WX}
/-! ### dicts grow -/
def putD (kvs : List (Key × D)) (k : Key) (v : D) : List (Key × D) := if (kvs.any fun kv => decide (kv.1 = k)) = true then kvs.map (fun kv => if kv.1 = k then (kv.1, v) else kv) else kvs ++ [(k, v)]
theorem Rks.app {K : PySem.W.Frag} {cl : Tb} {G : Hp} : ∀ {vs ws : List (Key × V)} {ds es : List (Key × D)}, Rks K cl G vs ds → Rks K cl G ws es → Rks K cl G (vs ++ ws) (ds ++ es)
  | _, _, _, _, .nil, h => h
  | _, _, _, _, .cons a r, h => .cons a (Rks.app r h)
theorem Rks.any {K : PySem.W.Frag} {cl : Tb} {G : Hp} (k : Key) : ∀ {vs : List (Key × V)} {ds : List (Key × D)}, Rks K cl G vs ds → (vs.any fun kv => decide (kv.1 = k)) = (ds.any fun kv => decide (kv.1 = k))
  | _, _, .nil => rfl
  | _, _, .cons _ r => by simp only [List.any_cons]; rw [Rks.any k r]
theorem Rks.over {K : PySem.W.Frag} {cl : Tb} {G : Hp} {k : Key} {v : V} {d : D} (rv : Rp K cl G v d) : ∀ {vs : List (Key × V)} {ds : List (Key × D)}, Rks K cl G vs ds → Rks K cl G (vs.map fun kv => if kv.1 = k then (kv.1, v) else kv) (ds.map fun kv => if kv.1 = k then (kv.1, d) else kv)
  | _, _, .nil => .nil
  | _, _, .cons (f := f) a r => by
    simp only [List.map_cons]
    by_cases c : f = k
    · rw [if_pos c, if_pos c]; exact .cons rv (Rks.over rv r)
    · rw [if_neg c, if_neg c]; exact .cons a (Rks.over rv r)
theorem Rks.put {K : PySem.W.Frag} {cl : Tb} {G : Hp} {k : Key} {v : V} {d : D} {vs : List (Key × V)} {ds : List (Key × D)} (r : Rks K cl G vs ds) (rv : Rp K cl G v d) : Rks K cl G (putK vs k v) (putD ds k d) := by
  unfold putK putD
  rw [Rks.any k r]
  split
  · exact Rks.over rv r
  · exact r.app (.cons rv .nil)
end
end Al

/-! AL18: C() of a class without an __init__ of its own. -/
namespace Al
open PySem PySem.W PySem.Calls PyProof.Rows L2 Cr
structure MkE (K : PySem.W.Frag) (C : Addr) : Prop where
  makes : PySem.W.makesIn K C = true
  init : PySem.W.findIn K (.ref C) "__init__" = some (some (.builtin "object.__init__"))
  top : PySem.W.mroIn K C (.type "object") = some true
  kp : PySem.W.keepIn K (.ref C) = true
section
variable {X : Cx} {cf : Cf} {W : WX} {C : Addr}
end
end Al

/-! AL19: dicts of one's own: d[k] = v, d.update(e), d[k]; isinstance of an own class. -/
namespace Cr
open PySem PySem.Spec PyProof.Rows L2
section
variable {X : Cx}
end
end Cr
namespace Al
open PySem L2 Cr
section
variable {X : Cx} {cf : Cf} {W : WX}
def withD (ρ : Ev) (i : Nat) (k : List (Key × D) → Prop) : Prop := match sl ρ i with
  | some (.dic kvs) => k kvs
  | _ => False
theorem Rks.length {K : PySem.W.Frag} {cl : Tb} {G : Hp} {vs : List (Key × V)} {ds : List (Key × D)} (r : Rks K cl G vs ds) : vs.length = ds.length := by simpa using congrArg List.length (Rks.keys r)
/-! ### isinstance(x, C), x an instance of C -/
def isC (c : Nat) : D → Option Bool
  | .ins c' _ => match Nat.beq c' c with
    | true => some true
    | false => none
  | _ => none
theorem isC_ok {K : PySem.W.Frag} {cl : Tb} {c : Nat} {C : Addr} (hC : cl.a c = C) (ot : OwnT K C) : IsOk K cl (.ref C) (isC c) := fun G H v d b s r h => by
  unfold isC at h
  split at h
  · next c' ds =>
    split at h
    · next e =>
      cases h
      cases r with
      | ins hg _ _ =>
        have ec : c' = c := Nat.eq_of_beq_eq_true e
        subst ec
        rw [hC] at hg
        exact ⟨_, ot.ty (s _ _ hg), by simp [PySem.W.kitOne]⟩
    · cases h
  · cases h
/-- a class without an __init__ of its own -/
structure ClE (K : PySem.W.Frag) (mg : Str → Option Value) (x : Str) (C : Addr) : Prop where
  mke : MkE K C
  cl : Cls K C
  mg : mg x = some (.ref C)
end
end Al

/-! AL20: y = {.. for k in d} on one line, tables of defs. -/
namespace Al
open PySem PySem.W PySem.Calls PyProof.Rows L2 Cr
section
variable {X : Cx} {cf : Cf} {W : WX}
end
end Al

/-! AL21: zip(x, y, strict=True); x, y = (new), (any); [a] * n as a new list. -/
namespace Al
open PySem L2 Cr
section
variable {X : Cx} {cf : Cf} {W : WX}
end
end Al

/-! CrTm: except (A, B, ..) as e, the exception kept behind the suite. -/
namespace Cr
open PySem PySem.Spec PyProof.Rows L2
section
variable {M : Model} {K : PySem.W.Frag}
end
/-- names of classes, as written -/
inductive NamesAre (X : Cx) : List Expr → List Value → Prop
  | nil : NamesAre X [] []
  | cons {x : Str} {c : Value} {p : Pos} {es : List Expr} {cs : List Value} (h : Names X x c) (r : NamesAre X es cs) (he : starEach (.Name x p :: es) X.env = (false, eval (.Name x p) X.env) :: starEach es X.env := by rfl) : NamesAre X (.Name x p :: es) (c :: cs)
section
variable {X : Cx} {n : Str} {cs : List Value} {es : List Expr} {i tk : Nat} {body suite : List Stmt} {b₀ : Stmt} {tp pos pos' : Pos} {tb : WX → TS} {ts : Addr → TS}
end
end Cr

/-! AL22: exceptions: try: x = e; except C as n: y = n (kept behind the suite); isinstance of a kept one; its fields. -/
namespace Al
open PySem L2 Cr
section
variable {X : Cx} {cf : Cf} {W : WX}
/-- a kept exception, the slots of one's own forgotten -/
theorem Rs.kept {M : Fx} {G G' H H' : Hp} {σ : L2.St} {ρ : Ev} {a : Addr} {o : HO} (R : Rs cf M G H σ ρ) (s1 : Same G G') (s2 : Same G' H') (hm : Kp cf M G' H') (na : H' a = none) :
    Rs cf M (upd G' a o) (upd H' a o) σ (Al.dropO cf.O 0 ρ) := by
  have ga : G' a = none := s2.free na
  refine ⟨Same.two s2, fun b u e => ?_, R.len.trans (dropO_len _ _ _).symm, fun i d hi e => ?_, fun i d hi e => ?_, fun i j d e a hi _ z => ?_, R.par, hm.2.new na fun b nb n => by rw [upd_ne nb]; exact n⟩
  · obtain ⟨h1, h2⟩ := hm.1 b u e
    have nb : b ≠ a := ne_of_none h1 na
    exact ⟨by rw [upd_ne nb]; exact h1, by rw [upd_ne nb]; exact h2⟩
  · obtain ⟨v, h1, h2⟩ := R.imm i d hi (dropO_sl _ _ _ _ _ e).1
    exact ⟨v, h1, (h2.up s1).up (same_up ga)⟩
  · have := (dropO_sl _ _ _ _ _ e).2
    rw [Nat.zero_add] at this
    exact absurd hi this
  · have := (dropO_sl _ _ _ _ _ z).2
    rw [Nat.zero_add] at this
    exact absurd hi this
theorem Rs.unset {M : Fx} {G H : Hp} {σ : L2.St} {ρ : Ev} {k : Nat} (R : Rs cf M G H σ ρ) (hk : k ∉ cf.O) : Rs cf M G H (σ.set k none) (ρ.set k none) := by
  refine ⟨R.same, R.mem, by simp [R.len], fun j e hj z => ?_, fun j e hj z => ?_, fun j l e f a hj hl z1 z2 => ?_, fun j a e => ?_, R.tab⟩
  rotate_right
  · obtain ⟨h1, h2, h3⟩ := R.par j a e
    exact ⟨h1, h2, by rw [List.getElem?_set_ne (fun c => hk (by rw [c]; exact h1))]; exact h3⟩
  · by_cases c : j = k
    · subst c
      have hl := sl_lt z
      rw [List.length_set] at hl
      rw [sl_set ρ j _ hl] at z
      cases z
    · rw [sl_set_ne ρ k j _ c] at z
      rw [List.getElem?_set_ne (Ne.symm c)]
      exact R.imm j e hj z
  · have c : j ≠ k := fun c => hk (c ▸ hj)
    rw [sl_set_ne ρ k j _ c] at z
    rw [List.getElem?_set_ne (Ne.symm c)]
    exact R.own j e hj z
  · have c : j ≠ k := fun c => hk (c ▸ hj)
    have c' : l ≠ k := fun c => hk (c ▸ hl)
    rw [sl_set_ne ρ k j _ c] at z1
    rw [sl_set_ne ρ k l _ c'] at z2
    rw [List.getElem?_set_ne (Ne.symm c), List.getElem?_set_ne (Ne.symm c')]
    exact R.dis j l e f a hj hl z1 z2
/-- what a clause wishes, over the plain forms -/
theorem keep_ok {M : Fx} {G H : Hp} {σ : L2.St} {ρ : Ev} {A : AK} {Dn : Ends} {i k : Nat} {c : Nat} {ds : List D} {cls : Value} {dx : Option Addr} {G' H' : Hp} {a : Addr} (R : Rs cf M G H σ ρ) (q : QS cf W M G A Dn) (hi : i ∉ cf.O) (hk : k ∉ cf.O) (ik : i ≠ k)
    (s1 : Same G G') (s2 : Same G' H') (hm : Kp cf M G' H') (xr : XR cf.K cf.cl G' cls dx (.exc c ds)) (na : H' a = none) (h : A.nx (((dropO cf.O 0 ρ).set i (some (.exc c ds))).set k none)) :
    Dn.nx (((σ.set k (some (.ref a))).set i (some (.ref a))).set k none) (upd H' a (ExK a cls dx)) := by
  obtain ⟨c', d, vs, ds', e, rfl, rfl, hd, r⟩ := xr
  cases e
  have ga : G' a = none := s2.free na
  have sG : Same G' (upd G' a (ExK a (.ref (cf.cl.a c)) (some d))) := same_up ga
  have R1 := R.kept (o := ExK a (.ref (cf.cl.a c)) (some d)) s1 s2 hm na
  have rp : Rp cf.K cf.cl (upd G' a (ExK a (.ref (cf.cl.a c)) (some d))) (.ref a) (.exc c ds) := .exc ⟨d, upd_same, sG _ _ hd⟩ (r.up sG)
  have R2 := (R1.set hi rp).unset hk
  have e1 : ((σ.set k (some (V.ref a))).set i (some (.ref a))).set k none = (σ.set i (some (.ref a))).set k none := by
    rw [List.set_comm _ _ (Ne.symm ik), List.set_set]
  rw [e1]
  exact q.nx _ _ _ _ (s1.trans sG) R2 h
/-! ### isinstance of a kept exception -/
def HasX (K : PySem.W.Frag) (C : Addr) : Prop := ∃ B newId initId tl, ExB K C B newId initId tl
theorem call_isXD : CallR X (.builtin "isinstance") (fun xs H Q => ∃ (a C : Addr) (fs : List (Str × V)) (c : V) (u : Value) (b : Bool), xs = [.ref a, c] ∧ XkAt H a C fs ∧ HasX X.K C ∧ ClsV c u ∧ PySem.W.kitOne X.K (.ref C) u = some b ∧ Q (.bl b) H) := by
  intro pins s σ H xs us Q I r h
  obtain ⟨a, C, fs, c, u, b, e, hk, ⟨B, n1, n2, tl, T⟩, cv, e2, q⟩ := h
  exact call_isX T pins s σ H xs us Q I r ⟨a, fs, c, u, b, e, hk, cv, e2, q⟩
def isX (tb : Nat → Option Bool) : D → Option Bool
  | .exc c _ => tb c
  | _ => none
def IsXOk (K : PySem.W.Frag) (cl : Tb) (u : Value) (tb : Nat → Option Bool) : Prop := ∀ c b, tb c = some b → HasX K (cl.a c) ∧ PySem.W.kitOne K (.ref (cl.a c)) u = some b
theorem e_isX {x c : Expr} {tb : Nat → Option Bool} {a : AE} {p pos : Pos} {cv : V} {u : Value} (hg : Gl X "isinstance") (hm : X.mg "isinstance" = none) (hx : Ee X cf W x a) (hc : PE X c (tC cv)) (hu : ClsV cv u) (ok : IsXOk cf.K cf.cl u tb)
    (he : starEach [x, c] X.env = (false, eval x X.env) :: starEach [c] X.env := by rfl) (he2 : starEach [c] X.env = [(false, eval c X.env)] := by rfl) (hpl : (backTo pos (starEach [c] X.env)).any (·.1) = false := by rfl) (hK : X.K = cf.K := by rfl) :
    Ee X cf W (.Call (.Name "isinstance" p) [x, c] [] pos) (aIs (isX tb) a) := PE.imp (pe_callB call_isXD hg hm (by decide +kernel) (pa_cons hx (pa_cons hc pa_nil he2) he) (by decide) (by decide) he hpl) fun σ H Q ⟨M, G, ρ, P, Xp, R, q, w, h⟩ => by
  refine ⟨M, G, ρ, _, Xp, R, fun d ρ1 v G1 H1 s1 R1 rd h1 => ?_, w, h⟩
  cases e : isX tb d with
  | none => rw [e] at h1; exact h1.elim
  | some b =>
    rw [e] at h1
    cases rd with
    | @exc a c vs ds hx r =>
      obtain ⟨hX, k⟩ := ok c b e
      exact ⟨a, _, _, cv, u, b, rfl, hx.up R1.same, by rw [hK]; exact hX, hu, by rw [hK]; exact k, q _ ρ1 _ G1 H1 s1 R1 (.bl b) h1⟩
    | _ => cases e
/-! ### fields of a kept exception -/
def tXkD (K : PySem.W.Frag) (f : Str) (te : TE) : TE := fun σ H Q => te σ H fun x H1 => ∃ (a C : Addr) (fs : List (Str × V)) (v : V), x = .ref a ∧ XkAt H1 a C fs ∧ HasX K C ∧ NoAttr K C f ∧ fs.lookup f = some v ∧ Q v H1
open PySem.Spec PyProof.Rows in
theorem pe_xkD {e : Expr} {te : TE} {pos : Pos} {n : Str} (he : PE X e te) (hb : attributeBase e n X.env (eval e X.env) = eval e X.env := by rfl) : PE X (.Attribute e n pos) (tXkD X.K n te) := by
  refine ⟨fun pins s σ H Q I h => attr_of hb (thn (he.run pins s σ H _ I h) fun u s1 z => ?_)⟩
  obtain ⟨x, H1, J, rx, a, C, fs, v, rfl, hk, ⟨B, n1, n2, tl, T⟩, hno, l, q⟩ := z
  obtain rfl : u = Value.ref a := rx
  obtain ⟨oe, od, mA, IA, hr, hl⟩ := xk_inst J hk
  obtain ⟨w, hw, rw'⟩ := RelO.some_of (v := v) (o := mA n) (by rw [← l]; exact hr n)
  obtain ⟨g, hg⟩ := T.gt
  exact HandSPX.exc_get J.kIn IA T.ga hg T.exC (PySem.W.findObj_own T.hd hno rfl (by rw [hl, hw])) (handed_of rw') ⟨v, H1, J.tok _, rw', q⟩
def XfOk (K : PySem.W.Frag) (cl : Tb) (n : Str) (tb : Nat → Option Nat) : Prop := ∀ c k, tb c = some k → HasX K (cl.a c) ∧ NoAttr K (cl.a c) n ∧ (cl.nm c)[k]? = some n ∧ (cl.nm c).Nodup
def xfD (tb : Nat → Option Nat) : D → Option D
  | .exc c ds => match tb c with
    | some k => ds[k]?
    | none => none
  | _ => none
def aXf (tb : Nat → Option Nat) (a : AE) : AE := fun ρ P X => a ρ (fun d ρ1 => match xfD tb d with
  | some v => P v ρ1
  | none => False) X
theorem e_xf {x : Expr} {a : AE} {tb : Nat → Option Nat} {n : Str} {pos : Pos} (ok : XfOk cf.K cf.cl n tb) (hx : Ee X cf W x a) (hb : attributeBase x n X.env (eval x X.env) = eval x X.env := by rfl) (hK : X.K = cf.K := by rfl) :
    Ee X cf W (.Attribute x n pos) (aXf tb a) := PE.imp (pe_xkD hx hb) fun σ H Q ⟨M, G, ρ, P, Xp, R, q, w, h⟩ => by
  refine ⟨M, G, ρ, _, Xp, R, fun d ρ1 v G1 H1 s1 R1 rd h1 => ?_, w, h⟩
  cases e : xfD tb d with
  | none => rw [e] at h1; exact h1.elim
  | some d' =>
    rw [e] at h1
    cases rd with
    | @exc a c vs ds hx r =>
      unfold xfD at e
      cases e2 : tb c with
      | none => simp only [e2] at e; cases e
      | some k =>
        simp only [e2] at e
        obtain ⟨hX, na, hn, nd⟩ := ok c k e2
        obtain ⟨v, hv, rv⟩ := r.getD e
        exact ⟨a, _, _, v, rfl, hx.up R1.same, by rw [hK]; exact hX, by rw [hK]; exact na, zip_look nd hn hv, q _ ρ1 _ G1 H1 s1 R1 rv h1⟩
    | _ => cases e
end
end Al

/-! AL23: own ==, !=, len, bool, str, repr of plain instances. -/
namespace Al
open PySem L2 Cr
section
variable {X : Cx} {cf cg : Cf} {W : WX}
theorem lift0R {F : AF0} {M : Fx} {G H : Hp} {σ : L2.St} {ρ : Ev} {P : D → Prop} {Q : VK} {vs : List V} {ds : List D} {n : Nat} (hlen : ∀ ds P X, F ds P X → ds.length = n) (hp : ∀ i ∈ cg.O, n ≤ i) (hK : cg.K = cf.K) (hc : cg.cl = cf.cl)
    (R : Rs cf M G H σ ρ) (r : Rps cf.K cf.cl G vs ds) (q : ∀ d v G' H', Same G G' → Rs cf M G' H' σ ρ → Rp cf.K cf.cl G' v d → P d → Q v H') (h : F ds P NX) : Lift cg (af0 F) vs H Q E0 := by
  have hd := hlen ds _ _ h
  have hO : ∀ i d, i ∈ cg.O → sl (ds.map some) i = some d → False := fun i d hi e => by
    have := sl_lt e
    rw [List.length_map, hd] at this
    have := hp i hi
    omega
  refine ⟨outG G H noA, G, ds, fun d ds' => P d, NX, ⟨R.same, fun b o (e : outG G H noA b = some o) => ⟨(outG_of e).1, (outG_of e).2.1⟩, by simp [r.len], fun i d hi e => ?_, fun i d hi e => (hO i d hi e).elim, fun i j d e a hi hj z1 => (hO i d hi z1).elim, fun i a e => (nomatch e), TabOk.nil⟩, h, fun d ds' v G' H' s1 R1 rd hP => ?_, fun x cls dx G' H' s1 s2 hm xr hx => hx.elim⟩
  · rw [hK, hc]; exact r.sl e
  · rw [hK, hc] at rd
    exact q d v G' H' s1 (R.after (no := noA) s1 R1.same R1.mem (fun _ _ _ z => z) (fun _ _ _ _ _ _ z => z) (fun _ _ _ _ z => z)) rd hP
/-- the class number c has its own ==, F -/
structure EqK (K : PySem.W.Frag) (cl : Tb) (c : Nat) (f : Addr) : Prop where
  own : OwnE K (cl.a c) f
  ty : OwnT K (cl.a c)
  nf : ∀ n ∈ ["NoneType", "bool", "int", "str", "list", "tuple", "dict"], PySem.W.notFirst K (cl.a c) (.type n) = true
theorem nf_own {K : PySem.W.Frag} (C : Addr) : PySem.W.notFirst K C (.ref C) = true := by simp [PySem.W.notFirst]
/-- what may stand beside it -/
def bes (c : Nat) : D → Bool
  | .ins c' _ => c' == c
  | .non => true | .bl _ => true | .int _ => true | .str _ => true | .lst _ => true | .tup _ => true | .dic _ => true
  | _ => false
def onBo (P : Bool → Prop) : D → Prop := fun d => ∃ b, d = .bl b ∧ P b
def oEqI (c : Nat) (F : AF0) (neg : Bool) : D → D → (D → Prop) → Prop := fun x y P => match x with
  | .ins c' fs => (c' = c ∧ bes c y = true) ∧ F [.ins c' fs, y] (onBo fun b => P (.bl (if neg then !b else b))) NX
  | _ => False
theorem bes_ty {G H : Hp} {c : Nat} {f : Addr} {v : V} {d : D} (E : EqK cf.K cf.cl c f) (s : Same G H) (r : Rp cf.K cf.cl G v d) (h : bes c d = true) : ∃ t, TyX cf.K H v t ∧ PySem.W.notFirst cf.K (cf.cl.a c) t = true := by
  have go : ∀ n, tyS d = some n → n ∈ ["NoneType", "bool", "int", "str", "list", "tuple", "dict"] → ∃ t, TyX cf.K H v t ∧ PySem.W.notFirst cf.K (cf.cl.a c) t = true := fun n e hn => ⟨_, ty_of r s e, E.nf n hn⟩
  cases d with
  | ins c' ds =>
    have ec : c' = c := by simpa [bes] using h
    subst ec
    cases r with
    | ins h1 _ _ => exact ⟨_, E.ty.ty (s _ _ h1), nf_own _⟩
  | non => exact go _ rfl (by simp)
  | bl b => exact go _ rfl (by simp)
  | int b => exact go _ rfl (by simp)
  | str b => exact go _ rfl (by simp)
  | lst b => exact go _ rfl (by simp)
  | tup b => exact go _ rfl (by simp)
  | dic b => exact go _ rfl (by simp)
  | _ => cases h
def rEqI (K : PySem.W.Frag) (C : Addr) (sp : Sp) (neg : Bool) : R2 := fun x y H Q => ∃ a dx fs t, x = .ref a ∧ H a = some (.ins C dx fs) ∧ TyX K H y t ∧ PySem.W.notFirst K C t = true ∧ sp [.ref a, y] H (OwnB fun r H' => Q (.bl (if neg then !r else r)) H') E0
theorem rl_eqI {c n : Nat} {f : Addr} {F : AF0} {neg : Bool} (E : EqK cf.K cf.cl c f) (hlen : ∀ ds P X, F ds P X → ds.length = n) (hp : ∀ i ∈ cg.O, n ≤ i) (hK : cg.K = cf.K := by rfl) (hc : cg.cl = cf.cl := by rfl) :
    RlO cf (rEqI cf.K (cf.cl.a c) (Lift cg (af0 F)) neg) (oEqI c F neg) := fun M G H σ ρ x y dx dy Q P R rx ry q hf => by
  unfold oEqI at hf
  cases rx with
  | ins h1 h2 r =>
    obtain ⟨⟨rfl, hb⟩, hf⟩ := hf
    obtain ⟨t, ty, nf⟩ := bes_ty E R.same ry hb
    refine ⟨_, _, _, t, rfl, R.same _ _ h1, ty, nf, lift0R hlen hp hK hc R (.cons (.ins h1 h2 r) (.cons ry .nil)) (fun d v G' H' s R' rd hP => ?_) hf⟩
    obtain ⟨b, rfl, hP⟩ := hP
    cases rd
    exact ⟨b, rfl, q _ _ G' H' s R' (.bl _) hP⟩
  | _ => exact hf.elim
theorem op_eqI {c k : Nat} {f : Addr} {fd : FuncData} {ps : List Str} {sp : Sp} (E : EqK X.K cf.cl c f) (F : FnOk X.prog X.w X.K X.mg X.base CX0 k f fd ps sp) (hb : Binds X.K fd ps []) (room : Room k X.A) : OpR X (compareOp .Eq) (rEqI X.K (cf.cl.a c) sp false) := op_eqO E.own F hb room
/-! ### len(o), bool(o), str(o), repr(o) -/
def on1 (c : Nat) (F : AF0) (g : (D → Prop) → D → Prop) : List D → (D → Prop) → Prop := fun ds P => match ds with
  | [.ins c' fs] => c' = c ∧ F [.ins c' fs] (g P) NX
  | _ => False
def r1 (C : Addr) (sp : Sp) (g : VK → VK) : List V → Hp → VK → Prop := fun xs H Q => ∃ a dx fs, xs = [.ref a] ∧ H a = some (.ins C dx fs) ∧ sp [.ref a] H (g Q) E0
theorem rl_1 {c n : Nat} {F : AF0} {g : (D → Prop) → D → Prop} {gv : VK → VK} (hlen : ∀ ds P X, F ds P X → ds.length = n) (hp : ∀ i ∈ cg.O, n ≤ i)
    (hg : ∀ (P : D → Prop) (Q : VK) (d : D) (v : V) (G H : Hp), (∀ e w, Rp cf.K cf.cl G w e → P e → Q w H) → Rp cf.K cf.cl G v d → g P d → gv Q v H) (hK : cg.K = cf.K := by rfl) (hc : cg.cl = cf.cl := by rfl) :
    RlC cf (r1 (cf.cl.a c) (Lift cg (af0 F)) gv) (on1 c F g) := fun M G H σ ρ xs dxs Q P R rx q hf => by
  unfold on1 at hf
  split at hf
  · obtain ⟨rfl, hf⟩ := hf
    cases rx with
    | cons r0 rt =>
      cases rt
      cases r0 with
      | ins h1 h2 r =>
        exact ⟨_, _, _, rfl, R.same _ _ h1, lift0R hlen hp hK hc R (.cons (.ins h1 h2 r) .nil) (fun d v G' H' s R' rd hP => hg P Q d v G' H' (fun e w rw' hp => q e w G' H' s R' rw' hp) rd hP) hf⟩
  · exact hf.elim
def gStr (P : D → Prop) : D → Prop := fun d => ∃ z, d = .str z ∧ P (.str z)
def vStr (Q : VK) : VK := fun v H' => ∃ z, v = .str z ∧ Q (.str z) H'
theorem hg_str (P : D → Prop) (Q : VK) (d : D) (v : V) (G H : Hp) (q : ∀ e w, Rp cf.K cf.cl G w e → P e → Q w H) (r : Rp cf.K cf.cl G v d) (h : gStr P d) : vStr Q v H := by
  obtain ⟨z, rfl, hP⟩ := h
  cases r
  exact ⟨z, rfl, q _ _ (.str _) hP⟩
end
end Al

/-! AL24: C(b = .., a = ..) by keywords in the contrary order; try: e(..); except (..) as n: y = n; isinstance of a kept exception by many; [..].index(o). -/
namespace Al
open PySem L2 Cr
section
variable {X : Cx} {cf cg : Cf} {W : WX}
/-! ### isinstance(e, (A, B, ..)) of a kept exception -/
theorem call_isXTD : CallR X (.builtin "isinstance") (fun xs H Q => ∃ (a tp C : Addr) (fs : List (Str × V)) (cs : List V) (ws : List Value) (b : Bool), xs = [.ref a, .ref tp] ∧ XkAt H a C fs ∧ HasX X.K C ∧ H tp = some (.tup cs) ∧ Paired ClsV cs ws ∧ PySem.W.kitAny X.K (.ref C) ws = some b ∧ Q (.bl b) H) := by
  intro pins s σ H xs us Q I r h
  obtain ⟨a, tp, C, fs, cs, ws, b, e, hk, ⟨B, n1, n2, tl, T⟩, ht, cv, e2, q⟩ := h
  exact call_isXT T pins s σ H xs us Q I r ⟨a, tp, fs, cs, ws, b, e, hk, ht, cv, e2, q⟩
def IsXTOk (K : PySem.W.Frag) (cl : Tb) (us : List Value) (tb : Nat → Option Bool) : Prop := ∀ c b, tb c = some b → HasX K (cl.a c) ∧ PySem.W.kitAny K (.ref (cl.a c)) us = some b
/-- the names of classes, as a display -/
def tCs (cs : List V) : TA := fun σ H Q => Q cs H
theorem e_isXT {x : Expr} {es : List Expr} {tb : Nat → Option Bool} {a : AE} {p pos tpos : Pos} {tk : Nat} {cvs : List V} {us : List Value} (hg : Gl X "isinstance") (hm : X.mg "isinstance" = none) (hx : Ee X cf W x a) (hc : PA X es (tCs cvs)) (hl : cvs.length ≤ sizeLine) (hu : Paired ClsV cvs us) (ok : IsXTOk cf.K cf.cl us tb)
    (he : starEach [x, .Tuple es tk tpos] X.env = (false, eval x X.env) :: starEach [.Tuple es tk tpos] X.env := by rfl) (he2 : starEach [.Tuple es tk tpos] X.env = [(false, eval (.Tuple es tk tpos) X.env)] := by rfl) (hpl : (backTo pos (starEach [.Tuple es tk tpos] X.env)).any (·.1) = false := by rfl) (hK : X.K = cf.K := by rfl) :
    Ee X cf W (.Call (.Name "isinstance" p) [x, .Tuple es tk tpos] [] pos) (aIs (isX tb) a) := PE.imp (pe_callB call_isXTD hg hm (by decide +kernel) (pa_cons hx (pa_cons (pe_tup hc) pa_nil he2) he) (by decide) (by decide) he hpl) fun σ H Q ⟨M, G, ρ, P, Xp, R, q, w, h⟩ => by
  refine ⟨M, G, ρ, _, Xp, R, fun d ρ1 v G1 H1 s1 R1 rd h1 => ?_, w, h⟩
  refine ⟨hl, fun tp np => ?_⟩
  cases e : isX tb d with
  | none => rw [e] at h1; exact h1.elim
  | some b =>
    rw [e] at h1
    obtain ⟨R2, s2, gp⟩ := R1.new (o := .tup cvs) np
    cases rd with
    | @exc a c vs ds hx r =>
      obtain ⟨hX, k⟩ := ok c b e
      exact ⟨a, tp, _, _, cvs, us, b, rfl, (hx.up R1.same).up (same_up np), by rw [hK]; exact hX, upd_same, hu, by rw [hK]; exact k, q _ ρ1 _ _ _ (s1.trans s2) R2 (.bl b) h1⟩
    | _ => cases e
end
end Al

/-! AL25: [..].index(o), things that are instances of tuples of numbers, with an own ==. -/
namespace Al
open PySem L2 Cr
section
variable {X : Cx} {cf cg : Cf} {W : WX}
end
end Al

/-! AL26: own exception classes: __init__, raise C(e, ..). -/
namespace Al
open PySem L2 Cr
/-- __init__ of such a class: fs the fields in the order of the parameters -/
def spXI (D : Addr) (fs : List Str) : Sp := fun vs H Q _ => ∃ (a : Addr) (ws : List V), vs = .ref a :: ws ∧ ws.length = fs.length ∧ H a = some (exo a D none) ∧
  ∀ (dx : Addr) (H' : Hp), H dx = none → dx ≠ a → (∀ b, b ≠ a → b ≠ dx → H' b = H b) → H' a = some (exo a D (some dx)) → H' dx = some (exd dx (fs.reverse.zip ws.reverse)) → Q .non H'
theorem spXI_len {D : Addr} {fs : List Str} (vs : List V) (H : Hp) (Q : VK) (E : XK) (h : spXI D fs vs H Q E) : vs.length = fs.length + 1 := by
  obtain ⟨a, ws, rfl, hl, _⟩ := h
  simp [hl]
section
variable {D : Addr} {f1 f2 f3 f4 m : Str} {N : List Str} {vs : List V} {H : Hp} {Q : VK} {E : XK} {B : String}
abbrev tInit (D : Addr) (m : Str) : TS := tDrop (tBI D (tCons (tVar 0) (tCons (tC (.str m)) tNil)))
theorem xi1 (hN : N.length = 2) (h : spXI D [f1] vs H Q E) : (tSeq (tInit D m) (tXst D f1 (tVar 0) (tVar 1))) { nx := fun _ H' => Q .non H', rt := Q } (start N vs) H := by
  obtain ⟨a, ws, rfl, hl, ha, q⟩ := h
  match ws, hl with
  | [w], _ =>
    refine ⟨_, rfl, a, _, rfl, by show 1 ≤ 1000; decide, ha, ?_⟩
    refine ⟨_, rfl, _, rfl, a, rfl, .inl ⟨ha, fun dx nd ne => ?_⟩⟩
    exact q dx _ nd ne (fun b h1 h2 => by rw [upd_ne h1, upd_ne h2]) upd_same (by rw [upd_ne ne, upd_same]; rfl)
end
section
variable {X : Cx} {cf : Cf} {W : WX}
theorem Rps.rv {K : PySem.W.Frag} {cl : Tb} {G : Hp} : ∀ {vs : List V} {ds : List D}, Rps K cl G vs ds → Rps K cl G vs.reverse ds.reverse
  | _, _, .nil => .nil
  | _, _, .cons a r => by
    rw [List.reverse_cons, List.reverse_cons]
    exact (Rps.rv r).app (.cons a .nil)
/-- raise C(e, ..) -/
def sRaise (c n : Nat) (a : AA) : AS := fun A ρ => a ρ (fun xs _ => withV xs fun ds => ds.length = n ∧ A.ex (.exc c ds.reverse)) A.ex
theorem s_raise {C : Addr} {c n : Nat} {fs : List Str} {es : List Expr} {e : Expr} {pos : Pos} {a : AA} (hC : cf.cl.a c = C) (hcalm : X.calm = true) (tk : Takes X W) (h : PA X es (γA cf W a) → PMk X e (tMkO C (spXI C fs) [] (γA cf W a))) (ha : Ea X cf W es a)
    (hn : n = fs.length := by rfl) (hfs : cf.cl.nm c = fs.reverse := by rfl) (h6 : fs.length ≤ 6 := by decide) : Es X cf W (.Raise (some e) none pos) (sRaise c n a) := PS.imp (ps_raise hcalm tk (h ha)) fun Dn σ H ⟨M, G, ρ, A, R, q, h⟩ => by
  refine ⟨M, G, ρ, _, A.ex, R, fun xs ρ1 vs G1 H1 s1 R1 ra h1 => ?_, q.ex σ, h⟩
  obtain ⟨ds, e1, hl, hx⟩ := withV_of h1
  have r := vals_of ra e1
  have lv : vs.length = fs.length := by rw [r.len, hl, hn]
  refine ⟨by omega, fun a na => ⟨a, vs, by rw [List.append_nil], lv, upd_same, fun dx H' nd ne st ea ed => ⟨rfl, dx, _, ea, ed, ?_, ?_⟩⟩⟩
  · rw [upd_ne ne] at nd; exact nd
  · rw [upd_ne ne] at nd
    have gd : G1 dx = none := R1.same.free nd
    have out : ∀ b o, H1 b = some o → (upd (del H' a) dx (.xd (fs.reverse.zip vs.reverse))) b = some o := fun b o eb => by
      have hba : b ≠ a := ne_of_none eb na
      have hbd : b ≠ dx := ne_of_none eb nd
      rw [upd_ne hbd, del_ne hba, st b hba hbd, upd_ne hba]
      exact eb
    refine q.ex σ (.exc c ds.reverse) (.ref C) (some dx) (upd G1 dx (.xd (fs.reverse.zip vs.reverse))) _ (s1.trans (same_up gd)) (fun b o eb => ?_) ⟨fun b o eb => ?_, R1.tab.next (fun b o e _ => out b o e) fun b ps e n => by rw [upd_ne (ne_of_none e nd)]; exact n⟩ ⟨c, dx, vs.reverse, ds.reverse, rfl, by rw [hC], rfl, by rw [hfs]; exact upd_same, (r.up (same_up gd)).rv⟩ hx
    · by_cases hb : b = dx
      · subst hb
        rw [upd_same] at eb ⊢
        exact eb
      · rw [upd_ne hb] at eb
        exact out b o (R1.same _ _ eb)
    · obtain ⟨m1, m2⟩ := R1.mem b o eb
      have hbd : b ≠ dx := ne_of_none m1 nd
      exact ⟨out b o m1, by rw [upd_ne hbd]; exact m2⟩
end
end Al

/-! AL27: f'{x!r}' of a list or tuple of data. -/
namespace Cr
open PySem PySem.Spec PyProof.Rows L2
def tFmtD (K : PySem.W.Frag) (te : TE) : TE := fun σ H Q => te σ H fun x H1 => ∃ (a : Addr) (d : PyData), x = .ref a ∧ Dp K H1 (.ref a) d ∧ d.showable = true ∧ d.depth ≤ 64 ∧ d.shown.length ≤ sizeLine ∧ Q (.str d.shown) H1
theorem pe_fmtD {X : Cx} {e : Expr} {te : TE} {pos : Pos} (hg : X.A.guards = some [] ∧ X.A.units + 66 < cLine) (he : PE X e te) : PE X (.FormattedValue e 114 none pos) (tFmtD X.K te) := by
  refine ⟨fun pins s σ H Q I h => ?_⟩
  refine wpAny_FormattedValue_repr (thn (he.run pins s σ H _ I h) fun v s1 hv => ?_)
  obtain ⟨x, H1, I1, r1, a, d, rfl, hd, hs, hdep, hsz, q⟩ := hv
  obtain rfl : v = Value.ref a := r1
  obtain ⟨as, rr⟩ := Dp.reads I1 _ _ _ hd rfl
  exact pyReprObj_of_reads rr hs (PyData.noDict_hsm (dpNoDict hd)) hg.1 (by omega) (fun b o e => e) (fun h' u tk hk => wpAny_formatField_str ⟨.str _, H1, I1.kept (t' := tk) hk, ⟨u, rfl⟩, q⟩ ⟨.str _, H1, I1.kept hk, ⟨_, rfl⟩, q⟩ hsz) hsz
end Cr
namespace Al
open PySem L2 Cr
section
variable {X : Cx} {cf : Cf} {W : WX}
def oFmtR : D → (D → Prop) → Prop := fun x P => match pyD x with
  | some p => (p.showable = true ∧ p.depth ≤ 64 ∧ p.shown.length ≤ sizeLine) ∧ (match x with
    | .tup _ => P (.str p.shown)
    | .lst _ => P (.str p.shown)
    | _ => False)
  | none => False
theorem e_fmtR {e : Expr} {a : AE} {pos : Pos} (hg : X.A.guards = some [] ∧ X.A.units + 66 < cLine) (he : Ee X cf W e a) (hK : X.K = cf.K := by rfl) : Ee X cf W (.FormattedValue e 114 none pos) (aU oFmtR a) := PE.imp (pe_fmtD hg he) (one (r := fun x H1 Q => ∃ (a : Addr) (d : PyData), x = .ref a ∧ Dp X.K H1 (.ref a) d ∧ d.showable = true ∧ d.depth ≤ 64 ∧ d.shown.length ≤ sizeLine ∧ Q (.str d.shown) H1) fun M G H σ ρ x dx Q P R rx q hf => by
  rw [hK]
  unfold oFmtR at hf
  cases e : pyD dx with
  | none => rw [e] at hf; exact hf.elim
  | some p =>
    rw [e] at hf
    obtain ⟨⟨h1, h2, h3⟩, hf⟩ := hf
    have rd := Al.Dp.up R.same (py_of rx e)
    cases rx with
    | tup _ _ => exact ⟨_, p, rfl, rd, h1, h2, h3, q _ _ G H (Same.refl _) R (.str _) hf⟩
    | lst _ _ => exact ⟨_, p, rfl, rd, h1, h2, h3, q _ _ G H (Same.refl _) R (.str _) hf⟩
    | _ => exact hf.elim)
end
end Al

/-! AL28: tables of a kept exception's classes and fields. -/
namespace Al
open PySem L2 Cr
theorem lk_mem {α : Type} {l : List (Nat × α)} {c : Nat} {b : α} (h : l.lookup c = some b) : (c, b) ∈ l := by
  induction l with
  | nil => cases h
  | cons p r ih =>
    obtain ⟨k, v⟩ := p
    rw [List.lookup_cons] at h
    by_cases e : c == k
    · rw [e] at h
      cases h
      rw [eq_of_beq e]
      exact List.mem_cons_self
    · have e : (c == k) = false := by simpa using e
      rw [e] at h
      exact List.mem_cons_of_mem _ (ih h)
theorem isx_ok {K : PySem.W.Frag} {cl : Tb} {u : Value} {l : List (Nat × Bool)} (h : ∀ p ∈ l, HasX K (cl.a p.1) ∧ PySem.W.kitOne K (.ref (cl.a p.1)) u = some p.2) : IsXOk K cl u (fun c => l.lookup c) := fun c b e => h (c, b) (lk_mem e)
theorem isxt_ok {K : PySem.W.Frag} {cl : Tb} {us : List Value} {l : List (Nat × Bool)} (h : ∀ p ∈ l, HasX K (cl.a p.1) ∧ PySem.W.kitAny K (.ref (cl.a p.1)) us = some p.2) : IsXTOk K cl us (fun c => l.lookup c) := fun c b e => h (c, b) (lk_mem e)
theorem xf_ok {K : PySem.W.Frag} {cl : Tb} {n : Str} {l : List (Nat × Nat)} (h : ∀ p ∈ l, HasX K (cl.a p.1) ∧ NoAttr K (cl.a p.1) n ∧ (cl.nm p.1)[p.2]? = some n ∧ (cl.nm p.1).Nodup) : XfOk K cl n (fun c => l.lookup c) := fun c k e => h (c, k) (lk_mem e)
end Al

/-! AL29: C(e, x), x a list of one's own that stays one's own: the new instance holds tuples of numbers alone. -/
namespace Al
open PySem L2 Cr
section
variable {X : Cx} {cf cg : Cf} {W : WX}
end
end Al

/-! AL30: isinstance(x, C) of anything. -/
namespace Al
open PySem L2 Cr
def isCA (c : Nat) (d : D) : Option Bool := match tyS d with
  | some _ => some false
  | none => isC c d
theorem isCA_ok {K : PySem.W.Frag} {cl : Tb} {c : Nat} {C : Addr} (hC : cl.a c = C) (ot : OwnT K C) (h : ∀ n ∈ (["NoneType", "bool", "int", "str", "list", "tuple", "dict"] : List String), PySem.W.kitOne K (.type n) (.ref C) = some false) : IsOk K cl (.ref C) (isCA c) := fun G H v d b s r e => by
  unfold isCA at e
  cases e2 : tyS d with
  | none => rw [e2] at e; exact isC_ok hC ot G H v d b s r e
  | some n =>
    rw [e2] at e
    cases e
    refine ⟨.type n, ty_of (cf := { K := K, cl := cl, O := [], np := 0 }) r s e2, h n ?_⟩
    cases d <;> cases e2 <;> simp
end Al

/-! AL31: (a, ..) * n. -/
namespace Al
open PySem L2 Cr
section
variable {X : Cx} {cf : Cf} {W : WX}
end
end Al

/-! AL32: told(lambda: e), the def that gets it keeps what e raises. -/
namespace Al
open PySem PySem.Spec PyProof.Rows L2 Cr LamX
def OutK (G H G' H' : Hp) : Prop := ∀ b o, outG G H noA b = some o → H' b = some o ∧ G' b = none
section
variable {X : Cx} {cf cg : Cf} {W : WX}
theorem OutK.refl {G H : Hp} (s : Same G H) : OutK G H G H := fun b o e => ⟨(outG_of e).1, (outG_of e).2.1⟩
theorem OutK.trans {G H G1 H1 G2 H2 : Hp} (a : OutK G H G1 H1) (b : OutK G1 H1 G2 H2) : OutK G H G2 H2 := fun c o e => b c o (outG_to (a c o e).1 (a c o e).2 fun z => z)
/-- behind the making of a lambda -/
theorem Rs.made {M : Fx} {G H H1 : Hp} {σ : L2.St} {ρ : Ev} {P : Addr} {q : Str} (R : Rs cf M G H σ ρ) (hT : cf.T = [(P, q)]) (e : ExtP P H H1) (t : TabS H1 P q) : Rs cf M G H1 σ ρ := by
  obtain ⟨t1, t2, t3⟩ := R.tab (by rw [hT]; simp)
  have hm : (P, q) ∈ cf.T := by rw [hT]; simp
  obtain ⟨ps, hP, _⟩ := t1 _ hm
  obtain ⟨mP, gP⟩ := t2 _ hm
  have n1 : ∀ b o, G b = some o → b ≠ P := fun b o z c => by rw [c, gP] at z; cases z
  have n2 : ∀ b o, M.m b = some o → b ≠ P := fun b o z c => by rw [c, mP] at z; cases z
  refine ⟨fun b o z => e b o (R.same b o z) (n1 b o z), fun b o z => ⟨e b o (R.mem b o z).1 (n2 b o z), (R.mem b o z).2⟩, R.len, R.imm, fun i d hi z => ?_, R.dis, R.par, fun n => ⟨fun p hp => ?_, t2, t3⟩⟩
  · obtain ⟨a, h1, h2, h3, h4⟩ := R.own i d hi z
    obtain ⟨u, hu, mu⟩ := h4.mut
    have na : a ≠ P := fun c => by rw [c, hP] at hu; cases hu; exact mu.1 _ rfl
    exact ⟨a, h1, h2, h3, h4.up (Same.refl _) ((e a u hu na).trans hu.symm)⟩
  · rw [hT, List.mem_singleton] at hp
    rw [hp]
    exact t
/-- what a clause wishes that keeps -/
def WkOk (cl : Tb) (cs : List Nat) (i k : Nat) (Wk : Ends → WX) : Prop := ∀ (D : Ends) (c : Nat) (dx : Option Addr) (σ : L2.St) (H : Hp), c ∈ cs → k < σ.length → (∀ b, H b = none → D.nx (((σ.set k (some (.ref b))).set i (some (.ref b))).set k none) (upd H b (ExK b (.ref (cl.a c)) dx))) → Wk D (.ref (cl.a c)) dx σ H
theorem wk_one {K : PySem.W.Frag} {cl : Tb} {cs : List Nat} {C : Value} {i k : Nat} (hcs : ∀ c ∈ cs, PySem.W.exmOne K (.ref (cl.a c)) C = some true) : WkOk cl cs i k (wKeep K C k (fun _ D σ H => tVar k σ H fun v H' => D.nx (σ.set i (some v)) H')) :=
  fun D c dx σ H hc hk h => ⟨hcs c hc, fun b nb => ⟨.ref b, List.getElem?_set_self hk, h b nb⟩⟩
end
end Al

/-! CrNt: (text, o) != (text, p) of pairs, the second things told apart by an own ==. -/
namespace Cr
open PySem PySem.Spec PyProof.Rows L2
section
variable {X : Cx} {k : Nat} {f C : Addr} {fd : FuncData} {ps : List Str} {sp : Sp}
end
end Cr

/-! AL33: (text, o) != (text, p) where an own == answers; repr, an empty dict too; o.m(k = v, ..). -/
namespace Al
open PySem PySem.Spec PyProof.Rows L2 Cr LamX
section
variable {X : Cx} {cf cg : Cf} {W : WX}
/-! ### repr, {} among it -/
def fReprT : List D → (D → Prop) → Prop := fun ds P => match ds with
  | [.dic []] => P (.str "{}")
  | _ => fRepr ds P
theorem call_reprE (hg : X.A.guards = some []) (hu : X.A.units + 66 < cLine) : CallR X (.builtin "repr") (fun xs H Q => ∃ a, xs = [.ref a] ∧ Rd H a (.dK []) ∧ Q (.str "{}") H) := by
  intro pins s σ H xs us Q I r h
  obtain ⟨a, rfl, ha, q⟩ := h
  obtain ⟨u, eu, rx⟩ := vals1 r
  subst eu
  cases rx
  obtain ⟨_, sm, vs, rv, o, es, ep, ho, ⟨hc, _, _⟩, hdat, _, hp, _⟩ := dk_rd I.hok ha
  obtain ⟨r1, r2⟩ := kv_reads (h := s.heap) hp rv (show KvD [] [] from by first | exact .nil | exact trivial | constructor)
  have rr : Reads s.heap (.ref a) (.dict []) (a :: [] ++ []) := .dict ho hc hdat r1 r2
  exact repr_of_reads' rr (by decide) (fun _ hm => by
    have e : sysModules = a := by simpa using hm
    rw [← e] at sm
    exact absurd sm (by decide)) hg (by show X.A.units + _ < cLine; simp [PyData.depth, PyData.depthKv]; omega) (fun b o e => e) (fun h' u tk hk => ⟨.str _, H, I.kept (t' := tk) hk, ⟨u, rfl⟩, q⟩) (by decide)
theorem call_reprT (hg : X.A.guards = some [] ∧ X.A.units + 66 < cLine) : CallR X (.builtin "repr") (fun xs H Q => (∃ (v : V) (d : PyData), xs = [v] ∧ Th X.K H v d ∧ d.showable = true ∧ d.depth ≤ 64 ∧ d.shown.length ≤ sizeLine ∧ Q (.str d.shown) H) ∨ ∃ a, xs = [.ref a] ∧ Rd H a (.dK []) ∧ Q (.str "{}") H) := CallR.or (call_reprW hg) (call_reprE hg.1 hg.2)
theorem rl_reprT (hK : X.K = cf.K := by rfl) : RlC cf (fun xs H Q => (∃ (v : V) (d : PyData), xs = [v] ∧ Th X.K H v d ∧ d.showable = true ∧ d.depth ≤ 64 ∧ d.shown.length ≤ sizeLine ∧ Q (.str d.shown) H) ∨ ∃ a, xs = [.ref a] ∧ Rd H a (.dK []) ∧ Q (.str "{}") H) fReprT := fun M G H σ ρ xs ds Q P R rx q hf => by
  unfold fReprT at hf
  split at hf
  · cases rx with
    | cons a r =>
      cases r
      cases a with
      | dic h1 h2 =>
        cases h2
        exact .inr ⟨_, rfl, Cr.Same.lst R.same h1, q _ _ G H (Same.refl _) R (.str _) hf⟩
  · exact .inl (rl_repr hK M G H σ ρ xs ds Q P R rx q hf)
end
end Al

/-! AL34: tuples that are known wholly: tuple(x), t.index(y). -/
namespace Al
open PySem L2 Cr
section
variable {X : Cx} {cf : Cf} {W : WX}
end
end Al

/-! AL35: a, *b = x of a tuple or a list. -/
namespace Al
open PySem PySem.Spec PyProof.Rows L2 Cr
section
variable {X : Cx} {cf : Cf} {W : WX}
end
end Al

/-! AL36: a lambda within a comprehension. -/
namespace Al
open PySem PySem.Spec PyProof.Rows L2 Cr
end Al

/-! AL37: != of two dicts of two things that are alike, by what they hold. -/
namespace Al
open PySem PySem.Spec PyProof.Rows L2 Cr
section
variable {X : Cx} {cf : Cf} {W : WX}
end
end Al

/-! AL38: a thing of one's own is no longer changed from a statement on: it is read as any other there. -/
namespace Al
open PySem L2 Cr
abbrev Cf.own (cf : Cf) (O : List Nat) : Cf := { K := cf.K, cl := cf.cl, O := O, np := cf.np, T := cf.T }
section
variable {cf : Cf} {O2 : List Nat} {M : Fx} {G H : Hp} {σ : St} {ρ : Ev} {i : Nat} {d : D}
end
section
variable {X : Cx} {cf : Cf} {W : WX}
end
end Al

/-! CrZm: for a, b in zip(x, y) of a list and a tuple in any mix, of any two lengths. -/
namespace Cr
open PySem PySem.Spec PyProof.Rows L2
open PySem.Sem (wp)
end Cr

/-! AL39: zip(x, y) of a list and a tuple in any mix. -/
namespace Al
open PySem L2 Cr
section
variable {X : Cx} {cf : Cf} {W : WX}
end
end Al

/-! CrBg: repr of lists and tuples of numbers of any size below 10^4300. -/
namespace Cr
open PySem PySem.Spec PyProof.Rows L2
theorem nodig_mono {h h' : Heap} (hn : h.NoDigits) (k : ∀ (b : Addr) (o : Obj), h.get? b = some o → h'.get? b = some o) : h'.NoDigits := by
  obtain ⟨mc, ⟨o, es, ep, h1, h2⟩, h3⟩ := hn
  exact ⟨mc, ⟨o, es, ep, k _ _ h1, h2⟩, h3⟩
section
variable {prog : Program} {w : World}
theorem int_repr_big {A : Around} {E : Value → Shared → Prop} {s : Shared} {a : Int} {t : Tok} {Q : Value → Shared → Prop} (hn : s.heap.NoDigits) (ha : a.natAbs < 10 ^ 4300)
    (h : Q (Value.str (Str.ofString (toString a)) s.toks) { heap := s.heap, gens := s.gens, drawn := s.drawn, toks := s.toks + 1, os := s.os }) :
    wpAny (model prog w) A (call (Value.builtin "int.__repr__") [Value.int a t]) Q E s := by
  refine wpAny_call_entry F.slot_int_repr (typeIs_int s a t) F.entry_int_repr ?_ (F.args_int_repr_1 (Value.int a t))
  change wpAny _ _ (bind (Builtin.overDigitLimit? a) _) _ _ _
  refine wpAny_bind (overDigitLimit_any hn (fun hlt => ?_) (fun hge => ?_))
  · exact wpAny_bind (wpAny_mkStr (wpAny_pure ⟨_, rfl, h⟩) (int_text_fits10 hlt))
  · exact absurd ha (by omega)
theorem reprK_big {as : List Addr} {h₀ : Heap} {d : Nat} {a : Int} {t : Tok} (hn : h₀.NoDigits) (ha : a.natAbs < 10 ^ 4300) : ReprK prog w as h₀ d (.int a t) (Str.ofString (toString a)) := by
  intro base hb A g E s Q hg hcl hu hk0 hQ
  have hns := nodig_mono hn hk0
  rw [pyReprUnder_leaf (by omega) (fun x e => by cases e)]
  refine wpAny_bind ?_
  unfold pyReprObj
  refine wpAny_bind (wpAny_pure ?_)
  refine wpAny_bind (wpAny_specialOf (typeIs_int s a t) F.slot_int_repr.lookup ?_)
  refine wpAny_bind (wpAny_callSpecialIfBound?_slot (typeIs_int s a t) F.slot_int_repr ?_)
  refine int_repr_big hns ha ?_
  refine wpAny_bind (wpAny_isInstance rfl isSubtype_str_str ?_)
  refine wpAny_pure ?_
  exact wpAny_pure (hQ _ _ fun b o e => e)
end
/-- the statics hold no limit of figures -/
def LimK (K : PySem.W.Frag) : Prop := ∃ o es ep, K.lookup cStatics = some o ∧ o.data = .dict es ep ∧ StrKeys es ∧ nsFind es (Str.ofString "sys.int_max_str_digits") = none
theorem LimK.nd {K : PySem.W.Frag} {h : Heap} (l : LimK K) (hK : K.In h) : h.NoDigits := by
  obtain ⟨o, es, ep, h1, h2, h3, h4⟩ := l
  exact ⟨nsFind es, ⟨o, es, ep, hK _ _ h1, h2, h3, fun _ => rfl⟩, h4⟩
def intT (i : Int) : Str := Str.ofString (toString i)
theorem all_big {prog : Program} {w : World} {h₀ : Heap} (hn : h₀.NoDigits) : ∀ {vs : List Value} {is : List Int} {as : List Addr}, ReadsAll h₀ vs (is.map PyData.int) as → (∀ i ∈ is, i.natAbs < 10 ^ 4300) → ReprAllK prog w [] h₀ 0 vs (is.map intT)
  | [], [], _, _, _ => .nil
  | _ :: _, [], _, h, _ => nomatch h
  | [], _ :: _, _, h, _ => nomatch h
  | v :: vs, i :: is, _, h, hb => by
    cases h with
    | cons r rs =>
      cases r
      exact .cons (reprK_big hn (hb i (by simp))) (all_big hn rs fun j hj => hb j (by simp [hj]))
end Cr

/-! AL40: repr of a list of numbers of any size below 10^4300. -/
namespace Al
open PySem L2 Cr
section
variable {X : Cx} {cf : Cf} {W : WX}
theorem ints_pys : ∀ {es : List D} {ns : List Int}, intsD es = some ns → pyDs es = some (ns.map PyData.int)
  | [], ns, h => by cases h; rfl
  | e :: es, ns, h => by
    cases e with
    | int i =>
      unfold intsD at h
      cases k : intsD es with
      | none => rw [k] at h; cases h
      | some r =>
        rw [k] at h
        cases h
        have ih := ints_pys k
        simp only [pyDs, pyD, ih, List.map_cons]
    | _ => cases h
/-! ### a loop over a list or a tuple -/
def iA (a : AE) : AI := fun ρ P X => iL a ρ P X ∨ iT a ρ P X
theorem i_any {tg l : Expr} {a : AE} (hl : Ee X cf W l a) (hK : X.K = cf.K := by rfl) : Ei X cf W tg l (iA a) := ⟨fun pins s σ H Q I ⟨M, G, ρ, P, Xp, R, q, w, h⟩ => h.elim
  (fun h => (i_list hl hK).run pins s σ H Q I ⟨M, G, ρ, P, Xp, R, q, w, h⟩) (fun h => (i_tup hl hK).run pins s σ H Q I ⟨M, G, ρ, P, Xp, R, q, w, h⟩)⟩
end
end Al

/-! CrBi: int(text) of any text that says a number. -/
namespace Cr
open PySem PySem.Spec PyProof.Rows L2
theorem max_digits {M : Model} {A : Around} {E : Value → Shared → Prop} {s : Shared} {Q : Nat → Shared → Prop} (hn : s.heap.NoDigits) (q : Q 4300 s) : wpAny M A Builtin.intMaxStrDigits Q E s := by
  obtain ⟨mc, h1, h2⟩ := hn
  unfold Builtin.intMaxStrDigits
  refine wpAny_bind (wpAny_nsGet h1 ?_)
  rw [h2]
  exact wpAny_pure q
theorem meets_text {x : Str} {u : Tok} {n : Int} (hx : x.length ≤ sizeLine) (he : intText? x = some n) :
    Meets (Builtin.«int.__new__» { pos := [Value.type "int", Value.str x u] }) (fun _ R s => s.heap.NoDigits ∧ R (.ok (.ret (.int n s.toks))) { heap := s.heap, gens := s.gens, drawn := s.drawn, toks := s.toks + 1, os := s.os }) := by
  intro prog w A R s ⟨hn, h⟩
  have f1 := F.conv_sub_int
  have f2 := F.madeHere_int
  have f3 := @W.KIN.str_int
  have f4 := @W.KIN.str_idx
  have f5 := @W.KIN.str_trunc
  refine wpAny_bind (wpAny_pure (wpAny_ite_false rfl (wpAny_bind (wpAny_of_eq f1 (wpAny_ite_false rfl (wpAny_bind (wpAny_of_eq f2 (wpAny_ite_false rfl (wpAny_ite_false rfl (wpAny_bind ?_))))))))))
  refine wpAny_pure (wpAny_bind (wpAny_bind (wpAny_bind (wpAny_specialOf_val rfl f3 (wpAny_pure (wpAny_bind (wpAny_specialOf_val rfl f4 (wpAny_ite_false rfl (wpAny_bind (wpAny_specialOf_val rfl f5 (wpAny_bind (wpAny_bind (wpAny_pure (wpAny_pure ?_))))))))))))))
  by_cases hs : (numSeenOf x).length ≤ 640
  · obtain ⟨m, e1, e2, e3⟩ | ⟨e1, _⟩ := read0 x hs
    · rw [he] at e1
      cases e1
      exact W.KIN.wp_text hs e3 e2 (wpAny_ite_true rfl (wpAny_pure h))
    · rw [he] at e1; cases e1
  · obtain ⟨m, e1, e2, e3⟩ | ⟨e1, _⟩ := read4300 x hx
    · rw [he] at e1
      cases e1
      refine wpAny_ite_false (decide_eq_false hs) (wpAny_bind (max_digits hn ?_))
      unfold numSeenOf numTextOf at e3
      dsimp only
      rw [e3]
      refine wpAny_ite_true (decide_eq_true e2) ?_
      refine wpAny_mkInt' ?_
      exact wpAny_ite_true rfl (wpAny_pure h)
    · rw [he] at e1; cases e1
theorem call_text_big {prog : Program} {w : World} {A : Around} {E : Value → Shared → Prop} {s : Shared} {Q : Value → Shared → Prop} {x : Str} {t : Tok} {n : Int} (hd : s.heap.NoDigits) (hx : x.length ≤ sizeLine) (he : intText? x = some n)
    (h : Q (Value.int n s.toks) { heap := s.heap, gens := s.gens, drawn := s.drawn, toks := s.toks + 1, os := s.os }) : wpAny (model prog w) A (call (Value.type "int") [Value.str x t]) Q E s := by
  refine call_int_1 (meets_text hx he) ?_
  exact ⟨hd, rfl, h⟩
theorem call_int_strB {X : Cx} (hL : LimK X.K) : CallR X (.type "int") (fun xs H Q => ∃ (a : Str) (n : Int), xs = [.str a] ∧ intText? a = some n ∧ a.length ≤ sizeLine ∧ Q (.int n) H) := by
  intro pins s σ H xs us Q I r h
  obtain ⟨a, n, rfl, he, hx, q⟩ := h
  obtain ⟨u, eu, rx⟩ := vals1 r
  subst eu
  obtain ⟨t, rfl⟩ := rx
  exact call_text_big (hL.nd I.kIn) hx he ⟨.int n, H, I.tok _, ⟨_, rfl⟩, q⟩
end Cr

/-! CrBf: f'{i}', f'{t!r}', repr(t) of numbers of any size below 10^4300. -/
namespace Cr
open PySem PySem.Spec PyProof.Rows L2
section
variable {prog : Program} {w : World}
abbrev TxtS (a : Int) : PySem.Spec := fun _ R s => s.heap.NoDigits ∧ R (.ok (.ret (.str (Str.ofString (toString a)) s.toks))) { heap := s.heap, gens := s.gens, drawn := s.drawn, toks := s.toks + 1, os := s.os }
theorem meets_intrepr {a : Int} {t : Tok} (ha : a.natAbs < 10 ^ 4300) : Meets (Builtin.«int.__repr__» { pos := [Value.int a t] }) (TxtS a) := by
  intro prog w A R s ⟨hn, h⟩
  change wpAny _ _ (bind (Builtin.overDigitLimit? a) _) _ _ _
  refine wpAny_bind (overDigitLimit_any hn (fun hlt => ?_) (fun hge => ?_))
  · exact wpAny_bind (wpAny_mkStr (wpAny_pure h) (int_text_fits10 hlt))
  · exact absurd ha (by omega)
theorem meets_fmt {a : Int} {t u : Tok} (ha : a.natAbs < 10 ^ 4300) : Meets (Builtin.«int.__format__» { pos := [Value.int a t, Value.str Str.empty u] }) (TxtS a) := by
  intro prog w A R s ⟨hn, h⟩
  unfold Builtin.«int.__format__»
  refine wpAny_bind (wpAny_pure ?_)
  refine wpAny_bind (wpAny_pure ?_)
  refine wpAny_ite_false rfl ?_
  refine wpAny_bind (wpAny_typeNameOf (T := "str") (typeIs_str s Str.empty u) (hn := rfl) (fun n => ?_))
  refine wpAny_bind (wpAny_pure ?_)
  refine wpAny_ite_true rfl ?_
  refine wpAny_bind (wpAny_rule ?_)
  refine wpAny_pure ⟨plainId_quiet F.slot_int_repr.plain _, codeAny_builtin F.entry_int_repr ?_⟩
  rw [Around.under_plainId F.slot_int_repr.plain]
  exact meets_intrepr ha prog w A R s ⟨hn, h⟩
theorem fmt_int_big {A : Around} {E : Value → Shared → Prop} {s : Shared} {a : Int} {t u : Tok} {Q : Value → Shared → Prop} (hn : s.heap.NoDigits) (ha : a.natAbs < 10 ^ 4300)
    (h : Q (Value.str (Str.ofString (toString a)) s.toks) { heap := s.heap, gens := s.gens, drawn := s.drawn, toks := s.toks + 1, os := s.os }) :
    wpAny (model prog w) A (call (Value.builtin "int.__format__") [Value.int a t, Value.str Str.empty u]) Q E s :=
  call_meets F.slot_int_format (typeIs_int s a t) F.entry_int_format (F.args_int_format_2 (Value.int a t) (Value.str Str.empty u)) (meets_fmt ha) ⟨hn, h⟩
theorem formatField_big {A : Around} {E : Value → Shared → Prop} {s : Shared} {a : Int} {t : Tok} {Q : Value → Shared → Prop} (hn : s.heap.NoDigits) (ha : a.natAbs < 10 ^ 4300)
    (h : Q (Value.str (Str.ofString (toString a)) (s.toks + 1)) { heap := s.heap, gens := s.gens, drawn := s.drawn, toks := s.toks + 1 + 1, os := s.os }) :
    wpAny (model prog w) A (formatField (Value.int a t) Str.empty) Q E s := by
  unfold formatField
  refine wpAny_holding ?_
  refine wpAny_bind (wpAny_mkStr ?_ (by decide))
  refine wpAny_bind (wpAny_callSpecial?_slot (typeIs_int _ a t) F.slot_int_format ?_)
  refine fmt_int_big (s := { heap := s.heap, gens := s.gens, drawn := s.drawn, toks := s.toks + 1, os := s.os }) hn ha ?_
  refine wpAny_bind (wpAny_isInstance (typeIs_str _ _ _) isSubtype_str_str ?_)
  exact wpAny_pure h
theorem repr_tup_obj {h₀ : Heap} {a : Addr} {is : List Int} {as : List Addr} {A : Around} {E : Value → Shared → Prop} {s : Shared} {Q : Value → Shared → Prop}
    (r : Reads h₀ (.ref a) (.tuple (is.map PyData.int)) as) (hn : h₀.NoDigits) (hb : ∀ i ∈ is, i.natAbs < 10 ^ 4300) (hg : A.guards = some []) (hu : A.units + 2 < cLine) (hk0 : ∀ (b : Addr) (o : Obj), h₀.get? b = some o → s.heap.get? b = some o)
    (hsz : (tupleText (is.map intT)).length ≤ sizeLine)
    (hQ : ∀ (h' : Heap) (u : Tok) (tk : Nat), (∀ (b : Addr) (o : Obj), s.heap.get? b = some o → h'.get? b = some o) → Q (.str (tupleText (is.map intT)) u) { heap := h', gens := s.gens, drawn := s.drawn, toks := tk, os := s.os }) :
    wpAny (model prog w) A (call (.builtin "tuple.__repr__") [.ref a]) Q E s := by
  cases r with
  | @tuple _ o vs n xs as h1 h2 h3 h4 =>
    have key := all_big (prog := prog) (w := w) hn h4 hb
    exact call_tuple_reprK (as := []) h1 h2 h3 (by simp) key (g := []) hg (fun b x => Clear.nil b) (by omega) hk0 hQ hsz
theorem tup_ty {h₀ : Heap} {a : Addr} {is : List Int} {as : List Addr} {s : Shared} (r : Reads h₀ (.ref a) (.tuple (is.map PyData.int)) as) (hk0 : ∀ (b : Addr) (o : Obj), h₀.get? b = some o → s.heap.get? b = some o) : s.TypeIs (.ref a) "tuple" := by
  cases r with
  | @tuple _ o vs n xs as h1 h2 h3 h4 => exact ⟨o, hk0 _ _ h1, h2⟩
end
def tFmtB (te : TE) : TE := fun σ H Q => te σ H fun x H1 => ∃ i : Int, x = .int i ∧ i.natAbs < 10 ^ 4300 ∧ Q (.str (intT i)) H1
theorem pe_fmtB {X : Cx} {e : Expr} {te : TE} {pos : Pos} (hL : LimK X.K) (he : PE X e te) : PE X (.FormattedValue e (-1) none pos) (tFmtB te) := by
  refine ⟨fun pins s σ H Q I h => ?_⟩
  refine wpAny_FormattedValue_plain (thn (he.run pins s σ H _ I h) fun v s1 hv => ?_)
  obtain ⟨x, H1, I1, r1, i, rfl, hb, q⟩ := hv
  obtain ⟨t, rfl⟩ := r1
  exact formatField_big (hL.nd I1.kIn) hb ⟨.str _, H1, I1.tok _, ⟨_, rfl⟩, q⟩
def tFmtTB (K : PySem.W.Frag) (te : TE) : TE := fun σ H Q => te σ H fun x H1 => ∃ (a : Addr) (is : List Int), x = .ref a ∧ Dp K H1 (.ref a) (.tuple (is.map PyData.int)) ∧ (∀ i ∈ is, i.natAbs < 10 ^ 4300) ∧ (tupleText (is.map intT)).length ≤ sizeLine ∧ Q (.str (tupleText (is.map intT))) H1
theorem pe_fmtTB {X : Cx} {e : Expr} {te : TE} {pos : Pos} (hL : LimK X.K) (hg : X.A.guards = some [] ∧ X.A.units + 66 < cLine) (he : PE X e te) : PE X (.FormattedValue e 114 none pos) (tFmtTB X.K te) := by
  refine ⟨fun pins s σ H Q I h => ?_⟩
  refine wpAny_FormattedValue_repr (thn (he.run pins s σ H _ I h) fun v s1 hv => ?_)
  obtain ⟨x, H1, I1, r1, a, is, rfl, hd, hb, hsz, q⟩ := hv
  obtain rfl : v = Value.ref a := r1
  obtain ⟨as, rr⟩ := Dp.reads I1 _ _ _ hd rfl
  refine wpAny_pyReprObj_slot (by omega) (tup_ty rr fun b o e => e) F.slot_tuple_repr ?_
  exact repr_tup_obj rr (hL.nd I1.kIn) hb hg.1 (by omega) (fun b o e => e) hsz (fun h' u tk hk => ⟨_, _, rfl, wpAny_formatField_str ⟨.str _, H1, I1.kept (t' := tk) hk, ⟨u, rfl⟩, q⟩ ⟨.str _, H1, I1.kept hk, ⟨_, rfl⟩, q⟩ hsz⟩)
theorem call_reprTB {X : Cx} (hL : LimK X.K) (hg : X.A.guards = some [] ∧ X.A.units + 66 < cLine) : CallR X (.builtin "repr") (fun xs H Q => ∃ (v : V) (is : List Int), xs = [v] ∧ Dp X.K H v (.tuple (is.map PyData.int)) ∧ (∀ i ∈ is, i.natAbs < 10 ^ 4300) ∧ (tupleText (is.map intT)).length ≤ sizeLine ∧ Q (.str (tupleText (is.map intT))) H) := by
  intro pins s σ H xs us Q I r h
  obtain ⟨v, is, ex, hd, hb, hsz, q⟩ := h
  subst ex
  obtain ⟨u, eu, rx⟩ := vals1 r
  subst eu
  cases hd with
  | tup h1 h2 =>
    cases rx
    obtain ⟨as, rr⟩ := Dp.reads I _ _ _ (.tup h1 h2) rfl
    refine call_repr_slot (by omega) (tup_ty rr fun b o e => e) F.slot_tuple_repr ?_
    refine repr_tup_obj rr (hL.nd I.kIn) hb hg.1 (by show X.A.in1.units + 2 < cLine; simp only [Around.in1]; omega) (fun b o e => e) hsz (fun h' u tk hk => ⟨_, _, rfl, .str _, H, I.kept (t' := tk) hk, ⟨u, rfl⟩, q⟩)
end Cr

/-! AL41: int(text) up to 4300 figures, f'{i}', f'{t!r}', repr(t) of big numbers. -/
namespace Al
open PySem L2 Cr
section
variable {X : Cx} {cf : Cf} {W : WX}
def fIntB : List D → (D → Prop) → Prop := fun ds P => match ds with
  | [.str a] => match PySem.intText? a with
    | some n => a.length ≤ sizeLine ∧ P (.int n)
    | none => False
  | _ => False
theorem rl_intB : RlC cf (fun xs H Q => ∃ (a : Str) (n : Int), xs = [.str a] ∧ PySem.intText? a = some n ∧ a.length ≤ sizeLine ∧ Q (.int n) H) fIntB := fun M G H σ ρ xs ds Q P R rx q hf => by
  unfold fIntB at hf
  split at hf
  · next a =>
    cases rx with
    | cons b r =>
      cases r; cases b
      cases e : PySem.intText? a with
      | none => rw [e] at hf; exact hf.elim
      | some n => rw [e] at hf; exact ⟨_, _, rfl, e, hf.1, q _ _ G H (Same.refl _) R (.int _) hf.2⟩
  · exact hf.elim
def oFmtB : D → (D → Prop) → Prop := fun x P => match x with
  | .int i => i.natAbs < 10 ^ 4300 ∧ P (.str (intT i))
  | _ => False
theorem e_fmtB {e : Expr} {a : AE} {pos : Pos} (hL : LimK X.K) (he : Ee X cf W e a) : Ee X cf W (.FormattedValue e (-1) none pos) (aU oFmtB a) := PE.imp (pe_fmtB hL he) (one (r := fun x H1 Q => ∃ i : Int, x = .int i ∧ i.natAbs < 10 ^ 4300 ∧ Q (.str (intT i)) H1) fun M G H σ ρ x dx Q P R rx q hf => by
  unfold oFmtB at hf
  split at hf
  · cases rx
    exact ⟨_, rfl, hf.1, q _ _ G H (Same.refl _) R (.str _) hf.2⟩
  · exact hf.elim)
def tupB (es : List D) (P : D → Prop) : Prop := match intsD es with
  | some ns => ((∀ i ∈ ns, i.natAbs < 10 ^ 4300) ∧ (tupleText (ns.map intT)).length ≤ sizeLine) ∧ P (.str (tupleText (ns.map intT)))
  | none => False
theorem ints_pyT {es : List D} {ns : List Int} (h : intsD es = some ns) : pyD (.tup es) = some (.tuple (ns.map PyData.int)) := by
  show (pyDs es).map PyData.tuple = _
  rw [ints_pys h]
  rfl
def oFmtTB : D → (D → Prop) → Prop := fun x P => match x with
  | .tup es => tupB es P
  | _ => False
theorem e_fmtTB {e : Expr} {a : AE} {pos : Pos} (hL : LimK X.K) (hg : X.A.guards = some [] ∧ X.A.units + 66 < cLine) (he : Ee X cf W e a) (hK : X.K = cf.K := by rfl) : Ee X cf W (.FormattedValue e 114 none pos) (aU oFmtTB a) := PE.imp (pe_fmtTB hL hg he) (one (r := fun x H1 Q => ∃ (a : Addr) (is : List Int), x = .ref a ∧ Dp X.K H1 (.ref a) (.tuple (is.map PyData.int)) ∧ (∀ i ∈ is, i.natAbs < 10 ^ 4300) ∧ (tupleText (is.map intT)).length ≤ sizeLine ∧ Q (.str (tupleText (is.map intT))) H1) fun M G H σ ρ x dx Q P R rx q hf => by
  rw [hK]
  unfold oFmtTB at hf
  split at hf
  · next es =>
    unfold tupB at hf
    cases e : intsD es with
    | none => rw [e] at hf; exact hf.elim
    | some ns =>
      rw [e] at hf
      have rd := Al.Dp.up R.same (py_of rx (ints_pyT e))
      cases rx with
      | tup _ _ => exact ⟨_, ns, rfl, rd, hf.1.1, hf.1.2, q _ _ G H (Same.refl _) R (.str _) hf.2⟩
  · exact hf.elim)
def fReprTB : List D → (D → Prop) → Prop := fun ds P => match ds with
  | [.tup es] => tupB es P
  | _ => False
theorem rl_reprTB (hK : X.K = cf.K := by rfl) : RlC cf (fun xs H Q => ∃ (v : V) (is : List Int), xs = [v] ∧ Dp X.K H v (.tuple (is.map PyData.int)) ∧ (∀ i ∈ is, i.natAbs < 10 ^ 4300) ∧ (tupleText (is.map intT)).length ≤ sizeLine ∧ Q (.str (tupleText (is.map intT))) H) fReprTB := fun M G H σ ρ xs ds Q P R rx q hf => by
  rw [hK]
  unfold fReprTB at hf
  split at hf
  · next es =>
    unfold tupB at hf
    cases rx with
    | cons a r =>
      cases r
      cases e : intsD es with
      | none => rw [e] at hf; exact hf.elim
      | some ns =>
        rw [e] at hf
        exact ⟨_, ns, rfl, Al.Dp.up R.same (py_of a (ints_pyT e)), hf.1.1, hf.1.2, q _ _ G H (Same.refl _) R (.str _) hf.2⟩
  · exact hf.elim
end
end Al

/-! AL42: try: x_j = e; except C as x_k: x_i = x_k. -/
namespace Al
open PySem L2 Cr
section
variable {X : Cx} {cf cg : Cf} {W : WX}
def sTryV (O cs : List Nat) (j i k : Nat) (a : AE) : AS := fun A ρ => k < ρ.length ∧ a ρ (fun d ρ1 => A.nx (ρ1.set j (some d))) fun x => ∃ c ds, x = .exc c ds ∧ c ∈ cs ∧ A.nx (((dropO O 0 ρ).set i (some x)).set k none)
theorem s_tryV {Wk : Ends → WX} {st : Stmt} {j i k : Nat} {cs : List Nat} {a : AE} (hj : j ∉ cf.O) (hi : i ∉ cf.O) (hk : k ∉ cf.O) (ik : i ≠ k) (wk : WkOk cf.cl cs i k Wk)
    (h : PS X st (fun D σ H => γE cf (Wk D) a σ H fun v H' => D.nx (σ.set j (some v)) H')) :
    Es X cf W st (sTryV cf.O cs j i k a) := PS.imp h fun Dn σ H ⟨M, G, ρ, A, R, q, kl, h⟩ => by
  refine ⟨M, G, ρ, _, _, R, fun d ρ1 v G1 H1 s1 R1 rd h1 => q.nx _ _ G1 H1 s1 (R1.set hj rd) h1, fun x cls dx G' H' s1 s2 hm xr hx => ?_, h⟩
  obtain ⟨c, ds, rfl, hc, h2⟩ := hx
  obtain ⟨c', d, vs, ds', e, rfl, rfl, hd, r⟩ := id xr
  cases e
  exact wk _ c _ σ _ hc (by rw [R.len]; exact kl) fun b nb => keep_ok R q hi hk ik s1 s2 hm xr nb h2
theorem s_tryV1 {C : Value} {st : Stmt} {j i k : Nat} {cs : List Nat} {a : AE} (hj : j ∉ cf.O) (hi : i ∉ cf.O) (hk : k ∉ cf.O) (ik : i ≠ k) (hK : X.K = cf.K) (hcs : ∀ c ∈ cs, PySem.W.exmOne cf.K (.ref (cf.cl.a c)) C = some true)
    (h : PS X st (fun D σ H => γE cf (wKeep X.K C k (fun _ D σ H => tVar k σ H fun v H' => D.nx (σ.set i (some v)) H') D) a σ H fun v H' => D.nx (σ.set j (some v)) H')) :
    Es X cf W st (sTryV cf.O cs j i k a) := s_tryV hj hi hk ik (wk_one (K := X.K) (C := C) (hK ▸ hcs)) h
/-! a def called by keywords alone, that may raise -/
def RunKX (X : Cx) (f : Addr) (n : Nat) (ks : List Str) (gV : List V → List V → List V) (sp : Sp) (W : WX) : Prop := ∀ (pins : List (Addr × Obj)) (σ : L2.St) (H : Hp) (s : Shared) (Q : VK) (us ws : List Value) (vs zs : List V), Inv X pins σ H s → Vals vs us → Vals zs ws → vs.length = n → zs.length = ks.length → sp (gV vs zs) H Q (WE W σ) → wpAny (model X.prog X.w) X.A (call (.ref f) us (ks.zip ws)) (EP X pins σ Q) X.xe s
theorem runKX {CX : CXT} {f : Addr} {fd : FuncData} {lv n : Nat} {ps ks : List Str} {sp : Sp} {g : List Value → List Value → List Value} {gV : List V → List V → List V} (Fn : FnOk X.prog X.w X.K X.mg X.base CX lv f fd ps sp) (hr : Room lv X.A) (hb : KBn X.K fd ps n ks g gV) (hx : ∀ σ, PassesAt CX X σ (WE W σ)) : RunKX X f n ks gV sp W := fun pins σ H s Q us ws vs zs I r rz l1 l2 q => by
  have e0 := I.env0
  have ht := hb.to s us ws I.kIn (r.length.symm.trans l1) (rz.length.symm.trans l2)
  refine wpAny_call (codeAny_mono (Fn.run X.A X.stack s H ⟨us, ks.zip ws⟩ (g us ws) (gV vs zs) Q _ hr e0 ht (hb.rel r rz) q) fun r s' q => ?_)
  match r, q with
  | .error e, q => exact hx σ pins H s e s' I q
  | .ok (.ret u), q => exact I.after q
theorem e_callK0X {f : Addr} {x : Str} {kws : List Keyword} {p pos : Pos} {F : AF0} {k : AA} {m np : Nat} {ks : List Str} {gV : List V → List V → List V} {gD : List D → List D → List D} (Rn : RunKX X f 0 ks gV (Lift cg (af0 F)) W) (hlen : ∀ ds P X, F ds P X → ds.length = np) (hp : ∀ i ∈ cg.O, np ≤ i) (hg : Gl X x) (hm : X.mg x = some (.ref f)) (hk : PySem.W.keepIn X.K (.ref f) = true)
    (gok : GOk gV gD) (hkw : Ek X cf W kws k) (hK : cg.K = cf.K := by rfl) (hc : cg.cl = cf.cl := by rfl)
    (hl : ks.length = m := by rfl) (hall : (backToKw pos (keywordEach kws X.env)).all (·.1.isSome) = true := by rfl) (hks : (backToKw pos (keywordEach kws X.env)).filterMap (·.1) = ks := by rfl)
    (hdb : (x == ("__debug__" : Str)) = false := by decide)
    (hpl : ((backTo pos (starEach [] X.env)).any (·.1) || (backToKw pos (keywordEach kws X.env)).any (·.1.isNone)) = false := by rfl) :
    Ee X cf W (.Call (.Name x p) [] kws pos) (aCallK 0 m F gD aNil k) := by
  subst hl
  have pe : PE X (.Call (.Name x p) [] kws pos) (fun σ H Q => γA cf W k σ H fun zs H2 => zs.length = ks.length ∧ Lift cg (af0 F) (gV [] zs) H2 Q (WE W σ)) := by
    refine ⟨fun pins s σ H Q I h => ?_⟩
    refine wpAny_Call_Name_kw (ld_glob I hg hm ?_ hdb)
    refine PySem.W.callWith_KW0 (h₀ := X.base) I.ok.mod.kin hk hall ?_ hpl
    refine thn (hkw.run pos pins s σ H _ I h) fun ws s2 ⟨zs, H2, I2, rz, l2, q2⟩ => ⟨I2.kIn, ?_⟩
    rw [hks]
    exact Rn pins σ H2 s2 Q [] ws [] zs I2 .nil rz rfl l2 q2
  refine PE.imp pe fun σ H Q ⟨M, G, ρ, P, Xp, R, q, w, h⟩ => ?_
  refine ⟨M, G, ρ, _, Xp, R, fun ys ρ2 zs G2 H2 s2 R2 rb h2 => ?_, w, h⟩
  obtain ⟨es', e', h2⟩ := withV_of h2
  have r2 := vals_of rb e'
  split at h2
  · next hb =>
    rw [Bool.and_eq_true] at hb
    refine ⟨r2.len.trans (Nat.eq_of_beq_eq_true hb.2), ?_⟩
    exact lift0 (cf := cf) (W := W) hlen hp hK hc R2 (gok _ _ _ _ _ _ _ .nil r2) (q.up s2) (w.up s2) h2
  · exact h2.elim
theorem repS1 (z : Str) : repS z 1 = z := by
  obtain ⟨⟨l⟩⟩ := z
  simp [repS]
def oRepZ : D → D → (D → Prop) → Prop := fun x y P => match x, y with
  | .str z, .int n => (0 ≤ n ∧ n ≤ 100000 ∧ 0 < z.length ∧ z.length * n.toNat ≤ sizeLine) ∧ P (.str (repS z n.toNat))
  | _, _ => False
def rRepZ : R2 := fun x y H Q => (∃ (z : Str) (n : Int), x = .str z ∧ y = .int n ∧ (n = 0 ∨ n = 1) ∧ Q (.str (if n = 0 then Str.empty else z)) H) ∨ ∃ (z : Str) (n : Int), x = .str z ∧ y = .int n ∧ 2 ≤ n ∧ n ≤ 100000 ∧ 0 < z.length ∧ z.length * n.toNat ≤ sizeLine ∧ Q (.str (repS z n.toNat)) H
theorem op_repZ : OpR X (binaryOp .Mult) rRepZ := op_repS1.or op_repS
theorem rl_repZ : RlO cf rRepZ oRepZ := fun M G H σ ρ x y dx dy Q P R rx ry q hf => by
  unfold oRepZ at hf
  split at hf
  · next z n =>
    cases rx; cases ry
    have hq := q _ _ G H (Same.refl _) R (.str _) hf.2
    by_cases h0 : n = 0
    · subst h0; exact .inl ⟨_, _, rfl, rfl, .inl rfl, by rw [if_pos rfl]; exact hq⟩
    by_cases h1 : n = 1
    · subst h1
      refine .inl ⟨_, _, rfl, rfl, .inr rfl, ?_⟩
      rw [if_neg (by decide)]
      have : repS z (1 : Int).toNat = z := repS1 z
      rw [this] at hq
      exact hq
    · exact .inr ⟨_, _, rfl, rfl, by omega, hf.1.2.1, hf.1.2.2.1, hf.1.2.2.2, hq⟩
  · exact hf.elim
end
end Al

/-! AlP: plain laws: sequencing, comprehensions, loops, parts of texts. -/
namespace Al
open PySem PySem.Builtin PySem.Builtin.Str PyProof.Rows L2 Cr TL NumText
theorem seq_k {s t : AS} {A : AK} {ρ : Ev} (h : ∀ K, K = t A → s { A with nx := K } ρ) : sSeq s t A ρ := h _ rfl
theorem callK01 {F : AF0} {i : Nat} {ρ : Ev} {x : D} {P : D → Ev → Prop} {X : XP} (hx : sl ρ i = some x) (h : F [x] (fun d => P d ρ) X) : aCallK 0 1 F (fun ds es => ds ++ es) aNil (aCons (aV i) aNil) ρ P X := by
  simp only [aCallK, aCons, aNil, aV, hx, withV, vals, Option.map_some]
  exact h
/-! ### comprehensions -/
theorem back1 {i : Nat} : ∀ (k : Nat) (ρ ρ2 : Ev), (∀ j x, k + j = i → ρ2.set j x = ρ.set j x) → (i < k → ρ2 = ρ) → ρ2.length = ρ.length → backD [i] k ρ ρ2 = ρ
  | k, [], [], _, _, _ => rfl
  | k, a :: r, [], _, _, h => by cases h
  | k, [], b :: t, _, _, h => by cases h
  | k, a :: r, b :: t, h, h2, hl => by
    unfold backD
    have e1 : (([i] : List Nat).contains k) = decide (k = i) := by by_cases c : k = i <;> simp [c]
    rw [e1]
    by_cases c : k = i
    · subst c
      have := h 0 none rfl
      simp only [List.set_cons_zero, List.cons.injEq, true_and] at this
      subst this
      rw [back1 (k + 1) t t (fun _ _ _ => rfl) (fun _ => rfl) rfl]
      simp
    · by_cases c2 : i < k
      · cases h2 c2
        rw [back1 (k + 1) r r (fun _ _ _ => rfl) (fun _ => rfl) rfl]
        simp [c]
      · have hj := h (i - k) none (by omega)
        obtain ⟨m, hm⟩ : ∃ m, i - k = m + 1 := ⟨i - k - 1, by omega⟩
        rw [hm] at hj
        simp only [List.set_cons_succ, List.cons.injEq] at hj
        obtain ⟨rfl, _⟩ := hj
        rw [back1 (k + 1) r t (fun j x e => by
          have := h (j + 1) x (by omega)
          simpa using this) (fun z => by omega) (by simpa using hl)]
        simp [c]
theorem back0 {i : Nat} {ρ ρ2 : Ev} (h : ∀ x, ρ2.set i x = ρ.set i x) : backD [i] 0 ρ ρ2 = ρ := back1 0 ρ ρ2 (fun j x e => by simp at e; subst e; exact h x) (fun z => by omega) (by have := congrArg List.length (h none); simpa using this)
theorem lcGo_of {tt : AT} {te : AE} {i : Nat} (p : D → Bool) (f : D → D) {ρ0 : Ev} : ∀ (ds : List D) (ρ : Ev) (P : List D → Ev → Prop), (∀ x, ρ.set i x = ρ0.set i x) →
    (∀ d ∈ ds, ∀ Q : Bool → Ev → Prop, Q (p d) (ρ0.set i (some d)) → tt (ρ0.set i (some d)) Q NX) →
    (∀ d ∈ ds, p d = true → ∀ Q : D → Ev → Prop, Q (f d) (ρ0.set i (some d)) → te (ρ0.set i (some d)) Q NX) →
    (∀ ρ2, (∀ x, ρ2.set i x = ρ0.set i x) → P ((ds.filter p).map f) ρ2) → lcGo (Tg.a (.nm i)) tt te [i] ds ρ P
  | [], ρ, P, hρ, ht, he, h => h ρ hρ
  | d :: ds, ρ, P, hρ, ht, he, h => by
    unfold lcGo
    show tt ((wipeD ρ [i]).set i (some d)) _ NX
    have e1 : (wipeD ρ [i]).set i (some d) = ρ0.set i (some d) := by
      show (ρ.set i none).set i (some d) = _
      rw [List.set_set, hρ]
    have e2 : ∀ x, (ρ0.set i (some d)).set i x = ρ0.set i x := fun x => List.set_set ..
    rw [e1]
    refine ht d (by simp) _ ?_
    cases hp : p d with
    | false =>
      rw [if_neg (by simp)]
      refine lcGo_of p f ds _ P e2 (fun d' h' => ht d' (by simp [h'])) (fun d' h' => he d' (by simp [h'])) fun ρ2 h2 => ?_
      have := h ρ2 h2
      rwa [List.filter_cons_of_neg (by simp [hp])] at this
    | true =>
      rw [if_pos rfl]
      refine he d (by simp) hp _ ?_
      refine lcGo_of p f ds _ _ e2 (fun d' h' => ht d' (by simp [h'])) (fun d' h' => he d' (by simp [h'])) fun ρ2 h2 => ?_
      have := h ρ2 h2
      rwa [List.filter_cons_of_pos hp] at this
/-- a comprehension whose test and item are plain -/
theorem lc_of {tt : AT} {te : AE} {i : Nat} (p : D → Bool) (f : D → D) {ds : List D} {ρ : Ev} {P : D → Ev → Prop} (hl : ds.length < sizeLine)
    (ht : ∀ d ∈ ds, ∀ Q : Bool → Ev → Prop, Q (p d) (ρ.set i (some d)) → tt (ρ.set i (some d)) Q NX)
    (he : ∀ d ∈ ds, p d = true → ∀ Q : D → Ev → Prop, Q (f d) (ρ.set i (some d)) → te (ρ.set i (some d)) Q NX) (h : P (.lst ((ds.filter p).map f)) ρ) :
    ds.length < sizeLine ∧ lcGo (Tg.a (.nm i)) tt te [i] ds ρ fun es ρ2 => P (.lst es) (backD [i] 0 ρ ρ2) :=
  ⟨hl, lcGo_of p f ds ρ _ (fun _ => rfl) ht he fun ρ2 h2 => by rw [back0 h2]; exact h⟩
theorem lc_map {te : AE} {i : Nat} (f : D → D) {ds : List D} {ρ : Ev} {P : D → Ev → Prop} (hl : ds.length < sizeLine)
    (he : ∀ d ∈ ds, ∀ Q : D → Ev → Prop, Q (f d) (ρ.set i (some d)) → te (ρ.set i (some d)) Q NX) (h : P (.lst (ds.map f)) ρ) :
    ds.length < sizeLine ∧ lcGo (Tg.a (.nm i)) tY te [i] ds ρ fun es ρ2 => P (.lst es) (backD [i] 0 ρ ρ2) := by
  refine lc_of (fun _ => true) f hl (fun d _ Q q => q) (fun d hd _ => he d hd) ?_
  rwa [List.filter_eq_self.mpr (fun _ _ => rfl)]
theorem lc_fil {tt : AT} {te : AE} {i : Nat} (p : D → Bool) {ds : List D} {ρ : Ev} {P : D → Ev → Prop} (hl : ds.length < sizeLine)
    (ht : ∀ d ∈ ds, ∀ Q : Bool → Ev → Prop, Q (p d) (ρ.set i (some d)) → tt (ρ.set i (some d)) Q NX)
    (he : ∀ d ∈ ds, ∀ Q : D → Ev → Prop, Q d (ρ.set i (some d)) → te (ρ.set i (some d)) Q NX) (h : P (.lst (ds.filter p)) ρ) :
    ds.length < sizeLine ∧ lcGo (Tg.a (.nm i)) tt te [i] ds ρ fun es ρ2 => P (.lst es) (backD [i] 0 ρ ρ2) := by
  refine lc_of p id hl ht (fun d hd _ => he d hd) ?_
  rwa [List.map_id]
theorem aLc_map {I : AI} {te : AE} {i : Nat} {X : XP} (ds : List D) (f : D → D) {ρ : Ev} {P : D → Ev → Prop} (hi : ∀ Q : List D → Ev → Prop, Q ds ρ → I ρ Q X) (hl : ds.length < sizeLine)
    (he : ∀ d ∈ ds, ∀ Q : D → Ev → Prop, Q (f d) (ρ.set i (some d)) → te (ρ.set i (some d)) Q NX) (h : P (.lst (ds.map f)) ρ) : aLc I (Tg.a (.nm i)) tY te [i] ρ P X := hi _ (lc_map f hl he h)
theorem aLc_fil {I : AI} {tt : AT} {te : AE} {i : Nat} {X : XP} (ds : List D) (p : D → Bool) {ρ : Ev} {P : D → Ev → Prop} (hi : ∀ Q : List D → Ev → Prop, Q ds ρ → I ρ Q X) (hl : ds.length < sizeLine)
    (ht : ∀ d ∈ ds, ∀ Q : Bool → Ev → Prop, Q (p d) (ρ.set i (some d)) → tt (ρ.set i (some d)) Q NX)
    (he : ∀ d ∈ ds, ∀ Q : D → Ev → Prop, Q d (ρ.set i (some d)) → te (ρ.set i (some d)) Q NX) (h : P (.lst (ds.filter p)) ρ) : aLc I (Tg.a (.nm i)) tt te [i] ρ P X := hi _ (lc_fil p hl ht he h)
/-- a loop with an invariant -/
theorem for_inv {g : AG} {b : AS} {A : AK} (I : Nat → Ev → Prop) : ∀ (ds : List D) (n : Nat) (ρ : Ev), I n ρ →
    (∀ (d : D) (m : Nat) (ρ : Ev) (Kn : Ev → Prop), d ∈ ds → I m ρ → (∀ ρ', I (m + 1) ρ' → Kn ρ') → g d ρ fun ρ1 => b { A with nx := Kn, ct := Kn, bk := A.nx } ρ1) →
    (∀ ρ, I (n + ds.length) ρ → A.nx ρ) → forGo g b A ds ρ
  | [], n, ρ, hI, _, h => h ρ hI
  | d :: ds, n, ρ, hI, st, h => by
    unfold forGo
    refine st d n ρ _ (by simp) hI fun ρ' h' => ?_
    exact for_inv I ds (n + 1) ρ' h' (fun d' m ρ Kn hd => st d' m ρ Kn (by simp [hd])) fun ρ hI2 => h ρ (by rw [List.length_cons, ← Nat.add_assoc, Nat.add_right_comm]; exact hI2)
/-! ### signs -/
def sgn : D → Nat
  | .str ⟨⟨[c]⟩⟩ => c
  | _ => 0
theorem signs_map {α : Type} (h : Nat → α) (z : Str) : (signsD z).map (fun d => h (sgn d)) = (tl z).map h := by
  simp only [signsD, List.map_map]
  rfl
theorem bls_map {α : Type} (g : α → Bool) : ∀ l : List α, blsD (l.map fun d => D.bl (g d)) = some (l.map g)
  | [] => rfl
  | a :: l => by
    show (blsD (l.map fun d => D.bl (g d))).map (g a :: ·) = _
    rw [bls_map g l]; rfl
theorem ints_map : ∀ l : List Int, intsD (l.map D.int) = some l
  | [] => rfl
  | a :: l => by
    show (match intsD (l.map D.int) with | some ns => some (a :: ns) | none => none) = _
    rw [ints_map l]
theorem strs_map : ∀ l : List Str, strsD (l.map D.str) = some l
  | [] => rfl
  | a :: l => by
    show (match strsD (l.map D.str) with | some ns => some (a :: ns) | none => none) = _
    rw [strs_map l]
theorem atI0 {α : Type} (l : List α) : atI l 0 = l.head? := by
  cases l with
  | nil => rfl
  | cons a r =>
    unfold atI
    simp [ixN]
theorem signsD_len (z : Str) : (signsD z).length = z.length := by simp [signsD, Str.length]
theorem atI_in {α : Type} {l : List α} {i : Int} (h0 : 0 ≤ i) (h1 : i < l.length) : ∃ x, atI l i = some x ∧ x ∈ l := by
  unfold atI ixN
  rw [if_pos h0, if_pos h1]
  simp only [Option.bind_some]
  have : i.toNat < l.length := by omega
  exact ⟨l[i.toNat], List.getElem?_eq_getElem this, List.getElem_mem this⟩
theorem rng_mem {d : D} : ∀ {n : Nat} {lo : Int}, d ∈ rng lo n → ∃ i : Int, d = .int i ∧ lo ≤ i ∧ i < lo + n
  | 0, lo, h => by cases h
  | n + 1, lo, h => by
    rcases List.mem_cons.mp h with h | h
    · exact ⟨lo, h, by omega, by omega⟩
    · obtain ⟨i, e, h1, h2⟩ := rng_mem h
      exact ⟨i, e, by omega, by omega⟩
/-! ### slices -/
theorem cutD_tail (z : List D) (k : Nat) : cutD z (some (k : Int)) none = z.drop k := by
  unfold cutD
  rw [HT.sIx_nat, HT.sIx_none]
  by_cases h : k ≤ z.length
  · rw [Nat.min_eq_left h, List.take_of_length_le (by rw [List.length_drop]; omega)]
  · rw [Nat.min_eq_right (by omega), List.drop_length, List.drop_of_length_le (by omega)]; simp
theorem cutD_head (z : List D) (k : Nat) : cutD z none (some (k : Int)) = z.take k := by
  unfold cutD
  rw [HT.sIx_nat, HT.sIx_none, List.drop_zero, Nat.sub_zero]
  by_cases h : k ≤ z.length
  · rw [Nat.min_eq_left h]
  · rw [Nat.min_eq_right (by omega), List.take_length, List.take_of_length_le (by omega)]
/-! ### parts of texts -/
theorem at_one {x : Str} {c i : Nat} : StrLaws.At x ⟨#[c]⟩ x.length i ↔ x.cps.toList[i]? = some c := StrLaws.subAt_one x c i
theorem part_no {x : Str} {c : Nat} (h : c ∉ tl x) : Txt.partition x ⟨#[c]⟩ = (x, Str.empty, Str.empty) := by
  unfold Txt.partition
  rcases StrLaws.occ_head x ⟨#[c]⟩ 1 (Nat.le_refl 1) with ⟨h0, hn⟩ | ⟨i, r, h0, hi, hn⟩
  · rw [h0]
  · exact absurd (List.mem_of_getElem? (at_one.mp hi)) h
theorem part_yes {x : Str} {c : Nat} {a b : List Nat} (e : tl x = a ++ c :: b) (h : c ∉ a) : tl (Txt.partition x ⟨#[c]⟩).1 = a ∧ (Txt.partition x ⟨#[c]⟩).2.1 = ⟨#[c]⟩ ∧ tl (Txt.partition x ⟨#[c]⟩).2.2 = b := by
  have e' : x.cps.toList = a ++ c :: b := e
  unfold Txt.partition
  rcases StrLaws.occ_head x ⟨#[c]⟩ 1 (Nat.le_refl 1) with ⟨h0, hn⟩ | ⟨i, r, h0, hi, hn⟩
  · exact absurd (at_one.mpr (by rw [e']; simp)) (hn a.length)
  · have hi' := at_one.mp hi
    have ia : i = a.length := by
      rcases Nat.lt_trichotomy i a.length with l | l | l
      · rw [e', List.getElem?_append_left l] at hi'
        exact absurd (List.mem_of_getElem? hi') h
      · exact l
      · exact absurd (at_one.mpr (by rw [e']; simp)) (hn a.length l)
    subst ia
    rw [h0]
    have l1 : x.length = a.length + (b.length + 1) := by
      have := congrArg List.length e'
      simpa [Str.length] using this
    refine ⟨?_, rfl, ?_⟩
    · show (strSub x 0 a.length).cps.toList = a
      rw [StrLaws.strSub_toList, e']
      simp
    · show (strSub x (a.length + 1) x.length).cps.toList = b
      rw [StrLaws.strSub_toList, e', l1]
      have : a ++ c :: b = (a ++ [c]) ++ b := by simp
      rw [this, List.drop_append_of_le_length (by simp)]
      simp only [List.length_append, List.length_cons, List.length_nil, Nat.zero_add, Nat.le_refl, List.drop_of_length_le, List.nil_append]
      exact List.take_of_length_le (by omega)
end Al

/-! AlS: single steps as lemmas (the kernel never compares unfolded continuations). -/
namespace Al
open PySem PySem.Builtin PySem.Builtin.Str PyProof.Rows L2 Cr TL NumText
def onBl (d : D) (k : Bool → Prop) : Prop := match d with
  | .bl b => k b
  | _ => False
def onSome {α : Type} (o : Option α) (k : α → Prop) : Prop := match o with
  | some a => k a
  | none => False
def onStr (d : D) (k : Str → Prop) : Prop := match d with
  | .str z => k z
  | _ => False
def onInt (d : D) (k : Int → Prop) : Prop := match d with
  | .int i => k i
  | _ => False
def onLst (d : D) (k : List D → Prop) : Prop := match d with
  | .lst ds => k ds
  | _ => False
def onTup (d : D) (k : List D → Prop) : Prop := match d with
  | .tup ds => k ds
  | _ => False
def onInt1 (ds : List D) (k : Int → Prop) : Prop := match ds with
  | [.int i] => k i
  | _ => False
def on2 (ds : List D) (k : D → D → Prop) : Prop := match ds with
  | [x, y] => k x y
  | _ => False
theorem on2_i {x y : D} {k : D → D → Prop} (h : k x y) : on2 [x, y] k := h
theorem onBl_i {b : Bool} {k : Bool → Prop} (h : k b) : onBl (.bl b) k := h
theorem onSome_i {α : Type} {o : Option α} {a : α} {k : α → Prop} (e : o = some a) (h : k a) : onSome o k := by subst e; exact h
theorem onInt_i {i : Int} {k : Int → Prop} (h : k i) : onInt (.int i) k := h
theorem if_t {A B : Prop} (h : A) : if true = true then A else B := h
theorem if_f {A B : Prop} (h : B) : if false = true then A else B := h
theorem if_tn {A B : Prop} (h : A) : if (!false) = true then A else B := h
theorem if_fn {A B : Prop} (h : B) : if (!true) = true then A else B := h
theorem if_T {A B : Prop} (h : A) : if True then A else B := by rw [if_pos trivial]; exact h
section
variable {ρ : Ev} {P : D → Ev → Prop} {X : XP}
theorem stV {i : Nat} {d : D} (e : sl ρ i = some d) (h : P d ρ) : aV i ρ P X := by unfold aV; rw [e]; exact h
theorem stC {d : D} (h : P d ρ) : aC d ρ P X := h
theorem stM {i : Nat} {d : D} (e : sl ρ i = some d) (h : P d (ρ.set i none)) : aM i ρ P X := by unfold aM; rw [e]; exact h
theorem stO {f : D → D → (D → Prop) → Prop} {a b : AE} (h : a ρ (fun x ρ1 => b ρ1 (fun y ρ2 => f x y fun d => P d ρ2) X) X) : aO f a b ρ P X := h
theorem stU {f : D → (D → Prop) → Prop} {a : AE} (h : a ρ (fun x ρ1 => f x fun d => P d ρ1) X) : aU f a ρ P X := h
theorem stAnd {a b : AE} (h : a ρ (fun d ρ1 => onBl d fun c => if c = true then b ρ1 P X else P (.bl false) ρ1) X) : aAnd a b ρ P X := h
theorem stOr {a b : AE} (h : a ρ (fun d ρ1 => onBl d fun c => if c = true then P (.bl true) ρ1 else b ρ1 P X) X) : aOr a b ρ P X := h
theorem stNot {a : AE} (h : a ρ (fun d ρ1 => onBl d fun c => P (.bl (!c)) ρ1) X) : aNot a ρ P X := h
theorem stIfE {c : AT} {a b : AE} (h : c ρ (fun k ρ1 => if k = true then a ρ1 P X else b ρ1 P X) X) : aIf c a b ρ P X := h
theorem stIs {g : D → Option Bool} {a : AE} (h : a ρ (fun d ρ1 => onSome (g d) fun b => P (.bl b) ρ1) X) : aIs g a ρ P X := by
  refine cast ?_ h
  unfold aIs
  congr 1
  funext d ρ1
  unfold onSome
  cases g d <;> rfl
theorem stTup {a : AA} (h : a ρ (fun xs ρ1 => withV xs fun ds => ds.length ≤ sizeLine ∧ P (.tup ds) ρ1) X) : aTup a ρ P X := h
theorem stLst {a : AA} (h : a ρ (fun xs ρ1 => withV xs fun ds => ds.length ≤ sizeLine ∧ P (.lst ds) ρ1) X) : aLst a ρ P X := h
theorem stF {f : List D → (D → Prop) → Prop} {a : AA} (h : a ρ (fun xs ρ1 => withV xs fun ds => f ds fun d => P d ρ1) X) : aF f a ρ P X := h
theorem stCall {F : AF0} {a : AA} (h : a ρ (fun xs ρ1 => withV xs fun ds => F ds (fun d => P d ρ1) X) X) : aCall F a ρ P X := h
theorem stCallD {dd : List D} {F : AF0} {a : AA} (h : a ρ (fun xs ρ1 => withV xs fun ds => F (ds ++ dd) (fun d => P d ρ1) X) X) : aCallD dd F a ρ P X := h
theorem stCallO {i : Nat} {F : AFo} {a : AA} {o : D} (e : sl ρ i = some o) (h : a ρ (fun xs ρ1 => withV xs fun ds => onSome (sl ρ1 i) fun o => F o ds (fun d o' => P d (ρ1.set i (some o'))) X) X) : aCallO i F a ρ P X := by
  unfold aCallO
  rw [e]
  refine cast ?_ h
  show _ = a ρ _ X
  congr 1
  funext xs ρ1
  congr 1
  funext ds
  unfold onSome
  cases sl ρ1 i <;> rfl
theorem stSl {f : D → Option Int → Option Int → (D → Prop) → Prop} {a : AE} {l u : AO} (h : a ρ (fun x ρ1 => l ρ1 (fun lo ρ2 => u ρ2 (fun hi ρ3 => f x lo hi fun d => P d ρ3) X) X) X) : aSl f a l u ρ P X := h
theorem stM1 {f : Str → D → (D → Prop) → Prop} {a b : AE} (h : a ρ (fun x ρ1 => onStr x fun z => b ρ1 (fun y ρ2 => f z y fun d => P d ρ2) X) X) : aM1 f a b ρ P X := h
end
section
variable {ρ : Ev} {X : XP}
theorem stpN {P : Option Int → Ev → Prop} (h : P none ρ) : pN ρ P X := h
theorem stpS {a : AE} {P : Option Int → Ev → Prop} (h : a ρ (fun d ρ1 => onInt d fun i => P (some i) ρ1) X) : pS a ρ P X := h
theorem stNil {P : List Ar → Ev → Prop} (h : P [] ρ) : aNil ρ P X := h
theorem stCons {a : AE} {r : AA} {P : List Ar → Ev → Prop} (h : a ρ (fun d ρ1 => r ρ1 (fun ds ρ2 => P (.inl d :: ds) ρ2) X) X) : aCons a r ρ P X := h
theorem stW {xs : List Ar} {ds : List D} {k : List D → Prop} (e : vals xs = some ds) (h : k ds) : withV xs k := by unfold withV; rw [e]; exact h
theorem stW0 {k : List D → Prop} (h : k []) : withV [] k := h
theorem stW1 {a : D} {k : List D → Prop} (h : k [a]) : withV [.inl a] k := h
theorem stW2 {a b : D} {k : List D → Prop} (h : k [a, b]) : withV [.inl a, .inl b] k := h
theorem stW3 {a b c : D} {k : List D → Prop} (h : k [a, b, c]) : withV [.inl a, .inl b, .inl c] k := h
theorem stW4 {a b c d : D} {k : List D → Prop} (h : k [a, b, c, d]) : withV [.inl a, .inl b, .inl c, .inl d] k := h
theorem stW5 {a b c d e : D} {k : List D → Prop} (h : k [a, b, c, d, e]) : withV [.inl a, .inl b, .inl c, .inl d, .inl e] k := h
theorem stW6 {a b c d e f : D} {k : List D → Prop} (h : k [a, b, c, d, e, f]) : withV [.inl a, .inl b, .inl c, .inl d, .inl e, .inl f] k := h
theorem stB {a : AE} {P : Bool → Ev → Prop} (h : a ρ (fun d ρ1 => onBl d fun b => P b ρ1) X) : aB a ρ P X := h
theorem stTr {a : AE} {P : Bool → Ev → Prop} (h : a ρ (fun d ρ1 => onSome (truD d) fun b => P b ρ1) X) : aTr a ρ P X := by
  refine cast ?_ h
  unfold aTr
  congr 1
  funext d ρ1
  unfold onSome
  cases truD d <;> rfl
theorem stTOr {a b : AT} {P : Bool → Ev → Prop} (h : a ρ (fun c ρ1 => if c = true then P true ρ1 else b ρ1 P X) X) : aTOr a b ρ P X := h
theorem stTAnd {a b : AT} {P : Bool → Ev → Prop} (h : a ρ (fun c ρ1 => if c = true then b ρ1 P X else P false ρ1) X) : aTAnd a b ρ P X := h
theorem stTNot {a : AT} {P : Bool → Ev → Prop} (h : a ρ (fun c ρ1 => P (!c) ρ1) X) : aTNot a ρ P X := h
theorem stiL {a : AE} {P : List D → Ev → Prop} (h : a ρ (fun d ρ1 => onLst d fun ds => P ds ρ1) X) : iL a ρ P X := h
theorem stiT {a : AE} {P : List D → Ev → Prop} (h : a ρ (fun d ρ1 => onTup d fun ds => P ds ρ1) X) : iT a ρ P X := h
theorem stiR1 {a : AA} {P : List D → Ev → Prop} (h : a ρ (fun xs ρ1 => withV xs fun ds => onInt1 ds fun j => (-(2 ^ 62) ≤ j ∧ j < 2 ^ 62) ∧ P (rng 0 j.toNat) ρ1) X) : iR1 a ρ P X := by
  refine cast ?_ h
  unfold iR1
  congr 1
end
section
variable {nx : Ev → Prop} {rt : D → Ev → Prop} {bk ct : Ev → Prop} {ex : XP} {A : AK} {ρ : Ev} {P1 : D → Prop} {P2 : D → D → Prop} {X0 : XP}
theorem stSet {i : Nat} {a : AE} (h : a ρ (fun d ρ1 => nx (ρ1.set i (some d))) ex) : sSet i a ⟨nx, rt, bk, ct, ex⟩ ρ := h
theorem stExpr {a : AE} (h : a ρ (fun _ ρ1 => nx ρ1) ex) : sExpr a ⟨nx, rt, bk, ct, ex⟩ ρ := h
theorem stNext (h : nx ρ) : sNext ⟨nx, rt, bk, ct, ex⟩ ρ := h
theorem stAsg {g : AG} {a : AE} (h : a ρ (fun d ρ1 => g d ρ1 nx) ex) : sAsg g a ⟨nx, rt, bk, ct, ex⟩ ρ := h
theorem stIf {c : AT} {s t : AS} (h : c ρ (fun b ρ1 => if b = true then s A ρ1 else t A ρ1) A.ex) : sIf c s t A ρ := h
theorem stFor {i : AI} {g : AG} {b : AS} (h : i ρ (fun ds ρ1 => forGo g b A ds ρ1) A.ex) : sFor i g b A ρ := h
theorem stPar {i j : Nat} {a : AA} (h : a ρ (fun xs ρ1 => withV xs fun ds => on2 ds fun x y => nx ((ρ1.set i (some x)).set j (some y))) ex) : sPar i j a ⟨nx, rt, bk, ct, ex⟩ ρ := h
theorem stRetO {a : AE} (h : a ρ (fun d ρ1 => at0s ρ1 (P2 d)) X0) : sRet a (endO P2 X0) ρ := h
theorem stRetP {a : AE} (h : a ρ (fun d ρ1 => P1 d) X0) : sRet a (endP P1 X0) ρ := h
theorem stRetMO {a : AE} (h : a ρ (fun d ρ1 => at0s ρ1 (P2 d)) ex) : sRet a ⟨nx, (endO P2 X0).rt, bk, ct, ex⟩ ρ := h
theorem stRetMP {a : AE} (h : a ρ (fun d ρ1 => P1 d) ex) : sRet a ⟨nx, (endP P1 X0).rt, bk, ct, ex⟩ ρ := h
theorem at0_i {k : D → Prop} {d : D} (e : sl ρ 0 = some d) (h : k d) : at0s ρ k := by unfold at0s; rw [e]; exact h
end
section
variable {P : D → Prop}
theorem opI {g : Int → Int → D} {i j : Int} (h : P (g i j)) : fI g (.int i) (.int j) P := h
theorem opIC {C : Int → Int → Prop} {g : Int → Int → D} {i j : Int} (h : C i j ∧ P (g i j)) : fIC C g (.int i) (.int j) P := h
theorem opAddI {i j : Int} (h : P (.int (i + j))) : oAddA (.int i) (.int j) P := h
theorem opAddS {x y : Str} (h : x.length + y.length ≤ sizeLine ∧ P (.str (x ++ y))) : oAddA (.str x) (.str y) P := h
theorem opAddT {xs ys : List D} (h : xs.length + ys.length ≤ sizeLine ∧ P (.tup (xs ++ ys))) : oAddA (.tup xs) (.tup ys) P := h
theorem opAddL {xs ys : List D} (h : xs.length + ys.length ≤ sizeLine ∧ P (.lst (xs ++ ys))) : oAddA (.lst xs) (.lst ys) P := h
theorem opMulI {i j : Int} (h : MulOk i j ∧ P (.int (i * j))) : oMulA (.int i) (.int j) P := h
theorem opEqI {i j : Int} (h : P (.bl (decide (i = j)))) : oEqA (.int i) (.int j) P := h
theorem opEqS {x y : Str} (h : P (.bl (decide (x = y)))) : oEqA (.str x) (.str y) P := h
theorem opEqE {xs : List D} (h : P (.bl xs.isEmpty)) : oEqA (.lst xs) (.lst []) P := h
theorem opNeI {i j : Int} (h : P (.bl (!decide (i = j)))) : oNeA (.int i) (.int j) P := h
theorem opNeS {x y : Str} (h : P (.bl (!decide (x = y)))) : oNeA (.str x) (.str y) P := h
theorem opNeE {xs : List D} (h : P (.bl (!xs.isEmpty))) : oNeA (.lst xs) (.lst []) P := h
theorem opEqT {xs : List D} (h : P (.bl xs.isEmpty)) : oEqT (.tup xs) (.tup []) P := h
theorem opNeT {xs : List D} (h : P (.bl (!xs.isEmpty))) : oNeT (.tup xs) (.tup []) P := h
theorem opNeg {i : Int} (h : P (.int (-i))) : oNeg (.int i) P := h
theorem opIxL {xs : List D} {i : Int} (h : onSome (atI xs i) P) : oIx (.lst xs) (.int i) P := by
  unfold onSome at h
  show (match atI xs i with | some d => P d | none => False)
  cases e : atI xs i with
  | none => rw [e] at h; exact h
  | some d => rw [e] at h; exact h
theorem opIxT {xs : List D} {i : Int} (h : onSome (atI xs i) P) : oIx (.tup xs) (.int i) P := by
  unfold onSome at h
  show (match atI xs i with | some d => P d | none => False)
  cases e : atI xs i with
  | none => rw [e] at h; exact h
  | some d => rw [e] at h; exact h
theorem opSlT {xs : List D} {lo hi : Option Int} (h : P (.tup (cutD xs lo hi))) : slA (.tup xs) lo hi P := h
theorem opSlL {xs : List D} {lo hi : Option Int} (h : P (.lst (cutD xs lo hi))) : slA (.lst xs) lo hi P := h
theorem opSlS {x : Str} {lo hi : Option Int} (h : x.length ≤ sizeLine ∧ P (.str (cutS x lo hi))) : slA (.str x) lo hi P := h
theorem opLenL {xs : List D} (h : P (.int (xs.length : Nat))) : fLenA [.lst xs] P := h
theorem opLenT {xs : List D} (h : P (.int (xs.length : Nat))) : fLenA [.tup xs] P := h
theorem opLenC {xs : List Int} (h : P (.int (xs.length : Nat))) : fLenA [.scr xs] P := h
theorem opLenS {x : Str} (h : x.length ≤ sizeLine ∧ P (.int (x.length : Nat))) : fLenA [.str x] P := h
theorem opStrI {i : Int} (h : i.natAbs.log2 < 1920 ∧ P (.str (toString i))) : fStrA [.int i] P := h
theorem opStrS {x : Str} (h : P (.str x)) : fStrA [.str x] P := h
theorem opTupL {xs : List D} (h : P (.tup xs)) : fTuple [.lst xs] P := h
theorem opLstT {xs : List D} (h : P (.lst xs)) : fList [.tup xs] P := h
end
theorem onLst_i {ds : List D} {k : List D → Prop} (h : k ds) : onLst (.lst ds) k := h
theorem onTup_i {ds : List D} {k : List D → Prop} (h : k ds) : onTup (.tup ds) k := h
theorem onStr_i {z : Str} {k : Str → Prop} (h : k z) : onStr (.str z) k := h
theorem onInt1_i {i : Int} {k : Int → Prop} (h : k i) : onInt1 [.int i] k := h
end Al

/-! AlG: single steps for the automatic stepper (gen2's @@GODEF@@): ends as explicit structures, loops and comprehensions over embedded lists. -/
namespace Al
open PySem PySem.Builtin PySem.Builtin.Str PyProof.Rows L2 Cr TL NumText
section
variable {nx : Ev → Prop} {rt : D → Ev → Prop} {bk ct : Ev → Prop} {ex : XP} {ρ : Ev} {X : XP} {s t : AS}
theorem goP {P : D → Prop} (h : s ⟨fun _ => P .non, fun d _ => P d, fun _ => False, fun _ => False, X⟩ ρ) : s (endP P X) ρ := h
theorem goO {P : D → D → Prop} (h : s ⟨fun ρ => at0s ρ (P .non), fun d ρ => at0s ρ (P d), fun _ => False, fun _ => False, X⟩ ρ) : s (endO P X) ρ := h
theorem goJ {j : Nat} {P : D → D → Prop} (h : s ⟨fun ρ => atjs j ρ (P .non), fun d ρ => atjs j ρ (P d), fun _ => False, fun _ => False, X⟩ ρ) : s (endJ j P X) ρ := h
theorem goSeq (h : s ⟨t ⟨nx, rt, bk, ct, ex⟩, rt, bk, ct, ex⟩ ρ) : sSeq s t ⟨nx, rt, bk, ct, ex⟩ ρ := h
theorem goIf {c : AT} (h : c ρ (fun b ρ1 => if b = true then s ⟨nx, rt, bk, ct, ex⟩ ρ1 else t ⟨nx, rt, bk, ct, ex⟩ ρ1) ex) : sIf c s t ⟨nx, rt, bk, ct, ex⟩ ρ := h
theorem goRet {a : AE} (h : a ρ rt ex) : sRet a ⟨nx, rt, bk, ct, ex⟩ ρ := h
theorem goRetN (h : rt .non ρ) : sRetN ⟨nx, rt, bk, ct, ex⟩ ρ := h
theorem goBrk (h : bk ρ) : sBrk ⟨nx, rt, bk, ct, ex⟩ ρ := h
theorem goCnt (h : ct ρ) : sCnt ⟨nx, rt, bk, ct, ex⟩ ρ := h
theorem goFor {i : AI} {g : AG} {b : AS} (h : i ρ (fun ds ρ1 => forGo g b ⟨nx, rt, bk, ct, ex⟩ ds ρ1) ex) : sFor i g b ⟨nx, rt, bk, ct, ex⟩ ρ := h
theorem goFor0 {g : AG} {b : AS} (h : nx ρ) : forGo g b ⟨nx, rt, bk, ct, ex⟩ [] ρ := h
theorem goFor1 {g : AG} {b : AS} {d : D} {ds : List D} (h : g d ρ fun ρ1 => b ⟨forGo g b ⟨nx, rt, bk, ct, ex⟩ ds, rt, nx, forGo g b ⟨nx, rt, bk, ct, ex⟩ ds, ex⟩ ρ1) : forGo g b ⟨nx, rt, bk, ct, ex⟩ (d :: ds) ρ := h
theorem goAug {i : Nat} {f : D → D → (D → Prop) → Prop} {a : AE} (h : onSome (sl ρ i) fun x => a ρ (fun y ρ1 => f x y fun z => nx (ρ1.set i (some z))) ex) : sAug i f a ⟨nx, rt, bk, ct, ex⟩ ρ := by
  unfold onSome at h
  unfold sAug
  cases e : sl ρ i with
  | none => rw [e] at h; exact h
  | some d => rw [e] at h; exact h
theorem goParO {i j : Nat} {a b : AE} (h : a ρ (fun d ρ1 => b ρ1 (fun e ρ2 => nx ((ρ2.set i (some d)).set j (some e))) ex) ex) : sParO i j a b ⟨nx, rt, bk, ct, ex⟩ ρ := h
def on3 (ds : List D) (k : D → D → D → Prop) : Prop := match ds with
  | [x, y, z] => k x y z
  | _ => False
theorem on3_i {x y z : D} {k : D → D → D → Prop} (h : k x y z) : on3 [x, y, z] k := h
theorem goPar3 {i j l : Nat} {a : AA} (h : a ρ (fun xs ρ1 => withV xs fun ds => on3 ds fun x y z => nx (((ρ1.set i (some x)).set j (some y)).set l (some z))) ex) : sPar3 i j l a ⟨nx, rt, bk, ct, ex⟩ ρ := h
theorem goIxS {i : Nat} {a k : AE} (h : a ρ (fun d ρ1 => withL ρ1 i fun _ => k ρ1 (fun kd ρ2 => onInt kd fun n => withL ρ2 i fun ds => onSome (ixN ds.length n) fun j => nx (ρ2.set i (some (.lst (ds.set j d))))) ex) ex) : sIxO i a k ⟨nx, rt, bk, ct, ex⟩ ρ := by
  refine cast ?_ h
  unfold sIxO
  congr 1
  funext d ρ1
  congr 1
  funext _
  congr 1
  funext kd ρ2
  unfold onInt
  cases kd <;> try rfl
  next n =>
    show withL ρ2 i _ = withL ρ2 i _
    congr 1
    funext ds
    unfold onSome
    cases ixN ds.length n <;> rfl
/-- a loop over embedded things -/
theorem goForE {α : Type} {g : AG} {b : AS} (l : List α) (e : α → D) (I : Nat → Ev → Prop) (h0 : I 0 ρ)
    (st : ∀ (m : Nat) (x : α) (ρ : Ev) (Kn : Ev → Prop), l[m]? = some x → m < l.length → x ∈ l → I m ρ → (∀ ρ', I (m + 1) ρ' → Kn ρ') → g (e x) ρ fun ρ1 => b ⟨Kn, rt, nx, Kn, ex⟩ ρ1)
    (h : ∀ ρ, I l.length ρ → nx ρ) : forGo g b ⟨nx, rt, bk, ct, ex⟩ (l.map e) ρ := by
  have key : ∀ (ds : List α) (n : Nat) (ρ : Ev), ds = l.drop n → n ≤ l.length → I n ρ → forGo g b ⟨nx, rt, bk, ct, ex⟩ (ds.map e) ρ := by
    intro ds
    induction ds with
    | nil =>
      intro n ρ e1 hn hI
      have : l.length ≤ n := List.drop_eq_nil_iff.mp e1.symm
      have : n = l.length := by omega
      subst this
      exact h ρ hI
    | cons d ds ih =>
      intro n ρ e1 hn hI
      have e2 : l[n]? = some d := by
        have := congrArg List.head? e1
        rw [List.head?_drop] at this
        exact this.symm
      have hl : n < l.length := (List.getElem?_eq_some_iff.mp e2).1
      refine goFor1 (st n d ρ _ e2 hl (List.mem_of_getElem? e2) hI fun ρ' h' => ?_)
      refine ih (n + 1) ρ' ?_ (by omega) h'
      have := congrArg List.tail e1
      rw [List.tail_drop] at this
      exact this
  exact key l 0 ρ rfl (Nat.zero_le _) h0
theorem goForL {g : AG} {b : AS} (l : List D) (I : Nat → Ev → Prop) (h0 : I 0 ρ)
    (st : ∀ (m : Nat) (x : D) (ρ : Ev) (Kn : Ev → Prop), l[m]? = some x → m < l.length → x ∈ l → I m ρ → (∀ ρ', I (m + 1) ρ' → Kn ρ') → g x ρ fun ρ1 => b ⟨Kn, rt, nx, Kn, ex⟩ ρ1)
    (h : ∀ ρ, I l.length ρ → nx ρ) : forGo g b ⟨nx, rt, bk, ct, ex⟩ l ρ := by
  have := goForE (g := g) (b := b) (rt := rt) (bk := bk) (ct := ct) (ex := ex) (nx := nx) l id I h0 st h
  rwa [List.map_id] at this
end
section
variable {ρ : Ev} {P : D → Ev → Prop} {X : XP}
def fldD (c k : Nat) : D → Option D
  | .ins c' ds => if Nat.beq c' c then ds[k]? else none
  | _ => none
theorem goFld {c k : Nat} {a : AE} (h : a ρ (fun d ρ1 => onSome (fldD c k d) fun v => P v ρ1) X) : aFld c k a ρ P X := by
  refine cast ?_ h
  unfold aFld
  congr 1
  funext d ρ1
  unfold onSome fldD
  cases d <;> try rfl
  next c' ds =>
    simp only
    cases Nat.beq c' c
    · rfl
    · simp only [if_true]
      cases ds[k]? <;> rfl
theorem goFldO {i c k : Nat} (h : onSome (sl ρ i) fun d => onSome (fldD c k d) fun v => P v ρ) : aFldO i c k ρ P X := by
  unfold onSome at h
  unfold aFldO
  cases e : sl ρ i with
  | none => rw [e] at h; exact h.elim
  | some d =>
    rw [e] at h
    simp only at h ⊢
    unfold fldD at h
    cases d <;> try exact h.elim
    next c' ds =>
      simp only at h ⊢
      cases e2 : Nat.beq c' c with
      | false => rw [e2] at h; exact h.elim
      | true =>
        rw [e2] at h
        simp only [if_true] at h ⊢
        cases e3 : ds[k]? with
        | none => rw [e3] at h; exact h.elim
        | some v => rw [e3] at h; exact h
theorem goCh {f g : D → D → (D → Prop) → Prop} {a b c : AE} (h : a ρ (fun x ρ1 => b ρ1 (fun y ρ2 => f x y fun d => onBl d fun k => if k = true then c ρ2 (fun z ρ3 => g y z fun e => P e ρ3) X else P (.bl false) ρ2) X) X) : aCh f g a b c ρ P X := by
  refine cast ?_ h
  unfold aCh
  congr 1
  funext x ρ1
  congr 1
  funext y ρ2
  congr 1
  funext d
  unfold onBl
  cases d <;> try rfl
  next k => cases k <;> rfl
theorem goDisp {kas : List (Key × AE)} (h : dGo kas ρ (fun kvs ρ1 => P (.dic kvs) ρ1) X) : aDisp kas ρ P X := h
theorem goDgo0 {P : List (Key × D) → Ev → Prop} (h : P [] ρ) : dGo [] ρ P X := h
theorem goDgo {k : Key} {a : AE} {r : List (Key × AE)} {P : List (Key × D) → Ev → Prop} (h : a ρ (fun d ρ1 => dGo r ρ1 (fun kvs ρ2 => P ((k, d) :: kvs) ρ2) X) X) : dGo ((k, a) :: r) ρ P X := h
theorem goIxO {i : Nat} {k : AE} (h : withL ρ i fun _ => k ρ (fun kd ρ1 => onInt kd fun n => withL ρ1 i fun ds => onSome (atI ds n) fun d => P d ρ1) X) : aIxO i k ρ P X := by
  refine cast ?_ h
  unfold aIxO
  congr 1
  funext _
  congr 1
  funext kd ρ1
  unfold onInt
  cases kd <;> try rfl
  next n =>
    show withL ρ1 i _ = withL ρ1 i _
    congr 1
    funext ds
    unfold onSome
    cases atI ds n <;> rfl
theorem goWL {i : Nat} {ds : List D} {k : List D → Prop} (e : sl ρ i = some (.lst ds)) (h : k ds) : withL ρ i k := by unfold withL; rw [e]; exact h
theorem goWD {i : Nat} {ds : List (Key × D)} {k : List (Key × D) → Prop} (e : sl ρ i = some (.dic ds)) (h : k ds) : withD ρ i k := by unfold withD; rw [e]; exact h
theorem goApp {i : Nat} {a : AE} (h : withL ρ i fun _ => a ρ (fun d ρ1 => withL ρ1 i fun ds => ds.length < sizeLine ∧ P .non (ρ1.set i (some (.lst (ds ++ [d]))))) X) : aApp i a ρ P X := h
theorem goExt {i : Nat} {a : AE} (h : withL ρ i fun _ => a ρ (fun d ρ1 => onLst d fun es => withL ρ1 i fun ds => ds.length + es.length ≤ sizeLine ∧ P .non (ρ1.set i (some (.lst (ds ++ es))))) X) : aExt i a ρ P X := h
theorem goLenO {i : Nat} (h : withL ρ i fun ds => P (.int (ds.length : Nat)) ρ) : aLenO i ρ P X := h
theorem goTupO {i : Nat} (h : withL ρ i fun ds => P (.tup ds) ρ) : aTupO i ρ P X := h
theorem goRev {i : Nat} (h : withL ρ i fun ds => P .non (ρ.set i (some (.lst ds.reverse)))) : aRev i ρ P X := h
theorem goEmpO {i : Nat} {neg : Bool} (h : withL ρ i fun ds => P (.bl (if neg then !ds.isEmpty else ds.isEmpty)) ρ) : aEmpO i neg ρ P X := h
def onIns (c : Nat) (d : D) (k : List D → Prop) : Prop := match d with
  | .ins c' fs => match Nat.beq c' c with
    | true => k fs
    | false => False
  | _ => False
theorem onIns_i {c : Nat} {fs : List D} {k : List D → Prop} (h : k fs) : onIns c (.ins c fs) k := by
  unfold onIns
  simp only [Nat.beq_refl]
  exact h
def onNon (d : D) (k : Prop) : Prop := match d with
  | .non => k
  | _ => False
theorem onNon_i {k : Prop} (h : k) : onNon .non k := h
theorem goMeth {c : Nat} {F : AF0} {o : AE} {a : AA} (h : o ρ (fun d ρ1 => onIns c d fun fs => a ρ1 (fun xs ρ2 => withV xs fun ds => F (.ins c fs :: ds) (fun d => P d ρ2) X) X) X) : aMeth c F o a ρ P X := by
  refine cast ?_ h
  unfold aMeth
  congr 1
  funext d ρ1
  unfold onIns
  cases d <;> try rfl
  next c' fs =>
    simp only
    cases e : Nat.beq c' c
    · rfl
    · cases Nat.eq_of_beq_eq_true e
      rfl
theorem goMake {c : Nat} {F : AFo} {a : AA} (h : a ρ (fun xs ρ1 => withV xs fun ds => F (.ins c []) ds (fun d o => onNon d (P o ρ1)) X) X) : aMake c F a ρ P X := h
theorem goTy {P : Bool → Ev → Prop} (h : P true ρ) : tY ρ P X := h
theorem goNm {i : Nat} {d : D} {k : Ev → Prop} (h : k (ρ.set i (some d))) : (Tg.a (.nm i)) d ρ k := h
theorem goV {i : Nat} {d : D} {k : Ev → Prop} (h : k (ρ.set i (some d))) : gV i d ρ k := h
theorem goTp {is : List Nat} {ds : List D} {k : Ev → Prop} (e : ds.length = is.length) (h : k (setAll is ds ρ)) : (Tg.a (.tp is)) (.tup ds) ρ k := ⟨e, h⟩
theorem goStT {i : Nat} {is : List Nat} {ds : List D} {k : Ev → Prop} (e : is.length ≤ ds.length + 1 ∧ ds.length ≤ 16384 ∧ i < is.length) (h : k (setAll is (starD is.length i ds) ρ)) : gStT i is (.tup ds) ρ k := ⟨e, h⟩
theorem goStL {i : Nat} {is : List Nat} {ds : List D} {k : Ev → Prop} (e : is.length ≤ ds.length + 1 ∧ ds.length ≤ 16384 ∧ i < is.length) (h : k (setAll is (starD is.length i ds) ρ)) : gStL i is (.lst ds) ρ k := ⟨e, h⟩
theorem setAll_c {i : Nat} {is : List Nat} {d : D} {ds : List D} : setAll (i :: is) (d :: ds) ρ = setAll is ds (ρ.set i (some d)) := rfl
theorem setAll_0 {ds : List D} : setAll [] ds ρ = ρ := by unfold setAll; rfl
/-! ### ifs -/
theorem ifT {c : Prop} [Decidable c] {A B : Prop} (hc : c) (h : A) : if decide c = true then A else B := by rw [decide_eq_true hc]; exact h
theorem ifF {c : Prop} [Decidable c] {A B : Prop} (hc : ¬c) (h : B) : if decide c = true then A else B := by rw [decide_eq_false hc]; exact h
theorem ifTn {c : Prop} [Decidable c] {A B : Prop} (hc : c) (h : B) : if (!decide c) = true then A else B := by rw [decide_eq_true hc]; exact h
theorem ifFn {c : Prop} [Decidable c] {A B : Prop} (hc : ¬c) (h : A) : if (!decide c) = true then A else B := by rw [decide_eq_false hc]; exact h
theorem ifT' {c : Prop} [Decidable c] {A B : Prop} (hc : c) (h : A) : if c then A else B := by rw [if_pos hc]; exact h
theorem ifF' {c : Prop} [Decidable c] {A B : Prop} (hc : ¬c) (h : B) : if c then A else B := by rw [if_neg hc]; exact h
theorem ifTb {b : Bool} {A B : Prop} (hc : b = true) (h : A) : if b = true then A else B := by rw [hc]; exact h
theorem ifFb {b : Bool} {A B : Prop} (hc : b = false) (h : B) : if b = true then A else B := by rw [hc]; exact h
theorem ifNN {b : Bool} {A B : Prop} (h : if b = true then A else B) : if (!!b) = true then A else B := by cases b <;> exact h
theorem goAt0 {k : D → Prop} {d : D} (e : sl ρ 0 = some d) (h : k d) : at0s ρ k := by unfold at0s; rw [e]; exact h
theorem goAtj {j : Nat} {k : D → Prop} {d : D} (e : sl ρ j = some d) (h : k d) : atjs j ρ k := by unfold atjs; rw [e]; exact h
/-! ### known places and parts -/
theorem at0c {x : D} {l : List D} {k : D → Prop} (h : k x) : onSome (atI (x :: l) 0) k := by rw [atI0]; exact h
theorem at0m {α : Type} {f : α → D} {x : α} {l : List α} {k : D → Prop} (h : k (f x)) : onSome (atI ((x :: l).map f) 0) k := by rw [atI0]; exact h
theorem at1c {x y : D} {l : List D} {k : D → Prop} (h : k y) : onSome (atI (x :: y :: l) 1) k := by
  have : atI (x :: y :: l) 1 = some y := by
    unfold atI ixN
    rw [if_pos (by decide), if_pos (by simp only [List.length_cons]; omega)]
    rfl
  rw [this]; exact h
theorem at2c {x y z : D} {l : List D} {k : D → Prop} (h : k z) : onSome (atI (x :: y :: z :: l) 2) k := by
  have : atI (x :: y :: z :: l) 2 = some z := by
    unfold atI ixN
    rw [if_pos (by decide), if_pos (by simp only [List.length_cons]; omega)]
    rfl
  rw [this]; exact h
theorem at3c {x y z u : D} {l : List D} {k : D → Prop} (h : k u) : onSome (atI (x :: y :: z :: u :: l) 3) k := by
  have : atI (x :: y :: z :: u :: l) 3 = some u := by
    unfold atI ixN
    rw [if_pos (by decide), if_pos (by simp only [List.length_cons]; omega)]
    rfl
  rw [this]; exact h
theorem cut1c (x : D) (l : List D) : cutD (x :: l) (some 1) none = l := cutD_tail _ 1
theorem cut1m {α : Type} (f : α → D) (x : α) (l : List α) : cutD ((x :: l).map f) (some 1) none = l.map f := cutD_tail _ 1
theorem cutAll (l : List D) : cutD l none none = l := by
  unfold cutD
  rw [HT.sIx_none, HT.sIx_none]
  simp
/-! ### calls -/
theorem goCallJ {i j : Nat} {F : AFo} {a : AA} (h : a ρ (fun xs ρ1 => withJ i j xs fun ds => onSome (sl ρ1 i) fun o => F o ds (fun d o' => P d (ρ1.set i (some o'))) X) X) : aCallJ i j F a ρ P X := by
  refine cast ?_ h
  unfold aCallJ
  congr 1
  funext xs ρ1
  congr 1
  funext ds
  unfold onSome
  cases sl ρ1 i <;> rfl
theorem goOwn {i : Nat} {r : AA} {P : List Ar → Ev → Prop} {d : D} (e : sl ρ i = some d) (h : r ρ (fun ds ρ2 => P (.inr i :: ds) ρ2) X) : aOwn i r ρ P X := by
  unfold aOwn
  rw [e]
  exact h
theorem goWJ {i j : Nat} {xs : List Ar} {k : List D → Prop} (e : xs[j]? = some (.inr i)) (h : withV (xs.eraseIdx j) k) : withJ i j xs k := ⟨e, h⟩
/-! ### things walked -/
theorem goiS {a : AE} {P : List D → Ev → Prop} (h : a ρ (fun d ρ1 => onStr d fun x => P (signsD x) ρ1) X) : iS a ρ P X := by
  refine cast ?_ h
  unfold iS
  rfl
/-! ### comprehensions over embedded things -/
theorem goLcE {α : Type} {I : AI} {te : AE} {i : Nat} (l : List α) (e : α → D) (g : α → D) (hi : ∀ Q : List D → Ev → Prop, Q (l.map e) ρ → I ρ Q X) (hl : l.length < sizeLine)
    (he : ∀ x ∈ l, ∀ Q : D → Ev → Prop, Q (g x) (ρ.set i (some (e x))) → te (ρ.set i (some (e x))) Q NX) (h : P (.lst (l.map g)) ρ) : aLc I (Tg.a (.nm i)) tY te [i] ρ P X := by
  refine hi _ ⟨by rw [List.length_map]; exact hl, ?_⟩
  have key : ∀ (l' : List α) (ρ' : Ev) (P' : List D → Ev → Prop), (∀ x ∈ l', x ∈ l) → (∀ x, ρ'.set i x = ρ.set i x) → (∀ ρ2, (∀ x, ρ2.set i x = ρ.set i x) → P' (l'.map g) ρ2) → lcGo (Tg.a (.nm i)) tY te [i] (l'.map e) ρ' P' := by
    intro l'
    induction l' with
    | nil => intro ρ' P' _ hr q; exact q ρ' hr
    | cons x l' ih =>
      intro ρ' P' hm hr q
      show te ((wipeD ρ' [i]).set i (some (e x))) _ NX
      have e1 : (wipeD ρ' [i]).set i (some (e x)) = ρ.set i (some (e x)) := by
        show (ρ'.set i none).set i (some (e x)) = _
        rw [List.set_set, hr]
      rw [e1]
      refine he x (hm x (by simp)) _ ?_
      exact ih _ _ (fun y hy => hm y (by simp [hy])) (fun x => List.set_set ..) fun ρ2 h2 => q ρ2 h2
  refine key l ρ _ (fun _ h => h) (fun _ => rfl) fun ρ2 h2 => ?_
  rw [back0 h2]
  exact h
theorem back_two (vs : List Nat) : ∀ (k : Nat) (ρ ρ2 ρ3 : Ev), ρ2.length = ρ.length → ρ3.length = ρ.length → (∀ n, (k + n) ∉ vs → ρ2[n]? = ρ3[n]?) → (∀ n, (k + n) ∈ vs → ρ[n]? = ρ3[n]?) → backD vs k ρ ρ2 = ρ3
  | k, [], [], [], _, _, _, _ => rfl
  | k, _, [], _ :: _, h1, h2, _, _ => by simp at h1 h2; rw [← h1] at h2; simp at h2
  | k, [], _ :: _, _, hl, _, _, _ => by simp at hl
  | k, _ :: _, [], _, hl, _, _, _ => by simp at hl
  | k, _ :: _, _ :: _, [], _, hl, _, _ => by simp at hl
  | k, a :: r, b :: t, c :: u, hl, hm, h, h' => by
    have ih := back_two vs (k + 1) r t u (by simpa using hl) (by simpa using hm) (fun n hn => by
      have := h (n + 1) (by rw [show k + (n + 1) = k + 1 + n by omega]; exact hn)
      simpa using this) fun n hn => by
      have := h' (n + 1) (by rw [show k + (n + 1) = k + 1 + n by omega]; exact hn)
      simpa using this
    unfold backD
    rw [ih]
    congr 1
    cases e : vs.contains k with
    | true =>
      have := h' 0 (by simpa using e)
      simpa using this
    | false =>
      have := h 0 (by simpa using e)
      simpa using this
/-- items that draw: the feed stands at j -/
theorem goLcD {α β : Type} {I : AI} {te : AE} {i j : Nat} (e : α → D) (em : β → D) (L : List α → Prop) (Y : β → Prop) (FO : Nat → D → Prop) (k c : Nat) (hij : i ≠ j)
    (hi : ∀ Q : List D → Ev → Prop, (∀ (l : List α) (g : D), FO k g → l.length < sizeLine → L l → Q (l.map e) (ρ.set j (some g))) → I ρ Q X)
    (st : ∀ (l : List α) (m : Nat) (x : α) (g : D), L l → x ∈ l → m < l.length → FO (k + c * m) g → ∀ Q : D → Ev → Prop, (∀ y g', Y y → FO (k + c * (m + 1)) g' → Q (em y) ((ρ.set j (some g')).set i (some (e x)))) → te ((ρ.set j (some g)).set i (some (e x))) Q NX)
    (fin : ∀ (l : List α) (ys : List β) (g' : D), L l → ys.length = l.length → (∀ y ∈ ys, Y y) → FO (k + c * l.length) g' → P (.lst (ys.map em)) (ρ.set j (some g'))) : aLc I (Tg.a (.nm i)) tY te [i] ρ P X := by
  refine hi _ fun l g0 hg0 hl hL => ?_
  refine ⟨by rw [List.length_map]; exact hl, ?_⟩
  have key : ∀ (l' : List α) (m : Nat) (g : D) (ρ' : Ev) (P' : List D → Ev → Prop), (∀ x ∈ l', x ∈ l) → m + l'.length = l.length → FO (k + c * m) g → (∀ a, ρ'.set i a = (ρ.set j (some g)).set i a) →
      (∀ (ys : List β) (g' : D) (ρ2 : Ev), ys.length = l'.length → (∀ y ∈ ys, Y y) → FO (k + c * l.length) g' → (∀ a, ρ2.set i a = (ρ.set j (some g')).set i a) → P' (ys.map em) ρ2) → lcGo (Tg.a (.nm i)) tY te [i] (l'.map e) ρ' P' := by
    intro l'
    induction l' with
    | nil =>
      intro m g ρ' P' _ hm hg hr q
      have : m = l.length := by simpa using hm
      subst this
      exact q [] g ρ' rfl (fun y h => absurd h (by simp)) hg hr
    | cons x l' ih =>
      intro m g ρ' P' hx hm hg hr q
      rw [List.length_cons] at hm
      show te ((wipeD ρ' [i]).set i (some (e x))) _ NX
      have e1 : (wipeD ρ' [i]).set i (some (e x)) = (ρ.set j (some g)).set i (some (e x)) := by
        show (ρ'.set i none).set i (some (e x)) = _
        rw [List.set_set, hr]
      rw [e1]
      refine st l m x g hL (hx x (by simp)) (by omega) hg _ fun y g' hy hg' => ?_
      refine ih (m + 1) g' _ _ (fun y hy => hx y (by simp [hy])) (by omega) hg' (fun a => List.set_set ..) fun ys g2 ρ2 hys hY hg2 hr2 => ?_
      refine q (y :: ys) g2 ρ2 (by simp [hys]) (fun z hz => ?_) hg2 hr2
      rcases List.mem_cons.mp hz with rfl | hz
      · exact hy
      · exact hY z hz
  refine key l 0 g0 (ρ.set j (some g0)) _ (fun _ h => h) (by omega) hg0 (fun _ => rfl) fun ys g' ρ2 hys hY hg' hr => ?_
  have hb : backD [i] 0 (ρ.set j (some g0)) ρ2 = ρ.set j (some g') := by
    refine back_two _ 0 _ _ _ (by have := congrArg List.length (hr none); simpa using this) (by simp) (fun n hn => ?_) fun n hn => ?_
    · rw [Nat.zero_add] at hn
      simp only [List.mem_cons, List.not_mem_nil, or_false] at hn
      have := congrArg (fun z : Ev => z[n]?) (hr none)
      rw [List.getElem?_set_ne (Ne.symm hn), List.getElem?_set_ne (Ne.symm hn)] at this
      exact this
    · rw [Nat.zero_add] at hn
      simp only [List.mem_cons, List.not_mem_nil, or_false] at hn
      subst hn
      rw [List.getElem?_set_ne (Ne.symm hij), List.getElem?_set_ne (Ne.symm hij)]
  rw [hb]
  exact fin l ys g' hL hys hY hg'
end
/-- what a range tells -/
theorem rng_emb (n : Nat) : rng 0 n = (List.range n).map fun k => D.int (k : Nat) := by
  have : ∀ (n : Nat) (lo : Int), rng lo n = (List.range n).map fun k => D.int (lo + (k : Nat)) := by
    intro n
    induction n with
    | zero => intro lo; rfl
    | succ n ih =>
      intro lo
      rw [rng, ih (lo + 1), List.range_succ_eq_map, List.map_cons, List.map_map]
      congr 1
      · rw [Int.ofNat_zero, Int.add_zero]
      · apply List.map_congr_left
        intro k _
        show D.int (lo + 1 + (k : Nat)) = D.int (lo + ((k + 1 : Nat) : Int))
        congr 1
        omega
  rw [this]
  apply List.map_congr_left
  intro k _
  rw [Int.zero_add]
theorem goiR1 {ρ : Ev} {X : XP} {a : AA} {P : List D → Ev → Prop} (h : a ρ (fun xs ρ1 => withV xs fun ds => onInt1 ds fun j => (-(2 ^ 62) ≤ j ∧ j < 2 ^ 62) ∧ P ((List.range j.toNat).map fun k => D.int (k : Nat)) ρ1) X) : iR1 a ρ P X := by
  refine stiR1 (cast ?_ h)
  congr 1
  funext xs ρ1
  congr 1
  funext ds
  congr 1
  funext j
  rw [rng_emb]
/-! ### operations -/
section
variable {P : D → Prop}
theorem opEqN {P : D → Prop} (h : P (.bl true)) : oIsN .non .non P := h
theorem opIsN_i {i : Int} (h : P (.bl false)) : oIsN (.int i) .non P := h
theorem opIsN_s {i : Str} (h : P (.bl false)) : oIsN (.str i) .non P := h
theorem opIsN_t {i : List D} (h : P (.bl false)) : oIsN (.tup i) .non P := h
theorem opIsN_l {i : List D} (h : P (.bl false)) : oIsN (.lst i) .non P := h
theorem opNotN_i {i : Int} (h : P (.bl true)) : oNotN (.int i) .non P := h
theorem opNotN_n (h : P (.bl false)) : oNotN .non .non P := h
theorem opMax {i j : Int} (h : P (.int (max i j))) : fMax2 [.int i, .int j] P := by
  show P (.int (if j > i then j else i))
  have : (if j > i then j else i) = max i j := by split <;> omega
  rw [this]; exact h
theorem opMin {i j : Int} (h : P (.int (min i j))) : fMin2 [.int i, .int j] P := by
  show P (.int (if j < i then j else i))
  have : (if j < i then j else i) = min i j := by split <;> omega
  rw [this]; exact h
theorem opAbs {i : Int} (h : P (.int (if i < 0 then -i else i))) : fAbs [.int i] P := h
theorem opIntI {i : Int} (h : P (.int i)) : fIntA [.int i] P := h
theorem opIntB {b : Bool} (h : P (.int (if b then 1 else 0))) : fIntA [.bl b] P := h
theorem opLstL {xs : List D} (h : P (.lst xs)) : fList [.lst xs] P := h
theorem opTupT {xs : List D} (h : P (.tup xs)) : fTuple [.tup xs] P := h
theorem opRevL {xs : List D} (h : P (.lst xs.reverse)) : oRevL (.lst xs) P := h
theorem opRevT {xs : List D} (h : P (.tup xs.reverse)) : oRevT (.tup xs) P := h
end
end Al

/-! CrHd: the end over a head by one kernel run: the top's facts by a Hook. -/
namespace Hd
open PySem PySem.Spec PyProof.Rows L2 Cr
section
variable {K : PySem.W.Frag}
theorem kw1 {kV : Value} {x : Str} {n : Int} (h : KwdV K kV [(x, V.int n)]) : ∃ (D : Addr) (t : Tok), kV = .ref D ∧ PySem.W.nsIn K D x = some (some (.int n t)) := by
  rcases h with h | ⟨D, rfl, h⟩
  · cases h
  · obtain ⟨u, e, t, rfl⟩ := h (x, .int n) (by simp)
    exact ⟨D, t, rfl, e⟩
theorem intC_ok {x : Str} {i : Int} (h : intC K x i = true) : ∃ t, PySem.W.nsIn K mainGlobals x = some (some (.int i t)) := by
  unfold intC at h
  split at h
  · next j t e => rw [e, of_decide_eq_true h]; exact ⟨t, rfl⟩
  · cases h
theorem strC_ok {x z : Str} (h : strC K x z = true) : ∃ t, PySem.W.nsIn K mainGlobals x = some (some (.str z t)) := by
  unfold strC at h
  split at h
  · next j t e => rw [e, of_decide_eq_true h]; exact ⟨t, rfl⟩
  · cases h
theorem limC_ok (h : limC K = true) : LimK K := by
  unfold limC at h
  split at h
  · next oc od es ep ts e =>
    obtain ⟨h1, h2⟩ := Bool.and_eq_true_iff.mp h
    refine ⟨_, es, ep, e, rfl, fun x hx => ?_, Option.isNone_iff_eq_none.mp h2⟩
    have := List.all_eq_true.mp h1 x (Array.mem_toList_iff.mpr hx)
    split at this
    · next n t k => exact ⟨n, t, k⟩
    · cases this
  · cases h
theorem valC_ok {c m : Value} {n : Str} {v : Value} (h : valC K c m n v = true) : PySem.W.findCls K c m n = some (.val v) := by
  unfold valC at h
  split at h
  · next u e => rw [e, of_decide_eq_true h]
  · cases h
end
/-! ### the Hook: addresses by places in the module's dict, the written part small -/
section
variable {t : Top} {L : List Addr} {K : PySem.W.Frag} {w : World}
theorem see_ex (c : t.see L K = t.val w) : t.ex L K = true := (Bool.and_eq_true_iff.mp (congrArg (fun z : AlM => z.2.2) c)).2
/-- a def as the Hook tells it -/
theorem see_fn (c : t.see L K = t.val w) (i : Nat) {d : Df} (h : t.fns[i]? = some d) :
    ∃ (od an : Option Addr) (sl : Array (Option Value)) (oc kV dc pm cd ct : Value), K.lookup (atL L d.at_) = some ⟨oc, od, .func (PySem.W.fnOf d.name d.qual d.params d.body d.scope .none kV dc pm an cd ct), sl⟩ ∧
      PySem.W.codeIn K cd d.qual = true ∧ PySem.W.keepIn K (.ref (atL L d.at_)) = true ∧ KwdV K kV (d.kws K) := by
  have c2 := (Bool.and_eq_true_iff.mp (congrArg (fun z : AlM => z.2.2) c)).1
  have e : t.fns.map (fun d => fnV K (atL L d.at_)) = t.fns.map Df.val := congrArg (fun z : AlM => z.1) c
  have e2 : (t.fns.map fun d => fnV K (atL L d.at_))[i]? = (t.fns.map Df.val)[i]? := by rw [e]
  rw [List.getElem?_map, List.getElem?_map, h] at e2
  have e3 : fnV K (atL L d.at_) = d.val := Option.some.inj e2
  have ok : d.ok L K = true := List.all_eq_true.mp c2 d (List.mem_of_getElem? h)
  unfold Df.ok at ok
  obtain ⟨kp, c3⟩ := Bool.and_eq_true_iff.mp ok
  unfold fnV at e3
  cases q : K.lookup (atL L d.at_) with
  | none => rw [q] at c3; cases c3
  | some o =>
    obtain ⟨oc, od, dt, osl⟩ := o
    rw [q] at c3 e3
    cases dt with
    | func fd =>
      obtain ⟨n1, n2, n3, n4, n5, n6, n7, n8, n9, n10, n11, n12, n13, n14, n15⟩ := fd
      have e4 : (some (n1, n2, n3, n4, n5, n6, n7, n15) : He.FnW) = some (d.name, d.qual, d.params, .stmts d.body, d.scope, mainGlobals, [], builtinsNs) := e3
      simp only [Option.some.injEq, Prod.mk.injEq] at e4
      obtain ⟨h1, h2, h3, h4, h5, h6, h7, h8⟩ := e4
      subst h1 h2 h3 h4 h5 h6 h7 h8
      have c4 : (PySem.W.codeIn K n13 d.qual && (He.dflB K n8 [] && He.kwdB K n9 (d.kws K))) = true := c3
      obtain ⟨k1, k2⟩ := Bool.and_eq_true_iff.mp c4
      obtain ⟨k3, k4⟩ := Bool.and_eq_true_iff.mp k2
      rcases He.dflB_ok k3 with ⟨_, rfl⟩ | ⟨ne, _⟩
      · exact ⟨od, n12, osl, oc, n9, n10, n11, n13, n14, rfl, k1, kp, He.kwdB_ok k4⟩
      · exact absurd rfl ne
    | _ => cases c3
theorem exAt {exs : List (List Addr → PySem.W.Frag → Bool)} (h : (exs.all fun p => p L K) = true) (i : Nat) {p : List Addr → PySem.W.Frag → Bool} (e : exs[i]? = some p) : p L K = true := List.all_eq_true.mp h p (List.mem_of_getElem? e)
end
theorem endH {l : PySem.W.OpenLaw} {n k : Nat} {q : Program} {loose : List Str} {XP : (Str → Option Value) → Heap → Prop} {YP : World → Heap → Prop} {d : DefRec} {x : Str}
    (imp : importsNone q = true) (hn : l.most = some n) (hn2 : n ≤ sizeLine) (hdf : d.params.defaults = []) (room : Room k callerA)
    (F : ∀ (w : World) (mg : Str → Option Value) (fa : Addr) (h : Heap), YP w h → h.Ns mainGlobals mg → mg d.name = some (.ref fa) →
      ∃ (K : PySem.W.Frag) (fd : FuncData) (sp : Sp), K.In h ∧ (∀ s u, BindsTo s fd ⟨[u], []⟩ [(x, u)]) ∧ (∀ base : Heap, K.In base → base.Ns mainGlobals mg → (∃ o, base.get? sysModules = some o) → FnG l.prog w K mg base CX0 k fa fd [x] sp) ∧
        ∀ (H : Hp) (a : Addr) (ns : List Int), ns.length ≤ n → Only H → SqL K H a (ns.map V.int) → sp [.ref a] H (fun v _ => v = .bl true) fun _ _ _ => False) :
    PySem.W.WalkO q loose XP YP l.row.toRowW d [] (fun f vs => PySem.call f vs) := by
  refine Att.attach_callB hn hdf fun w s₀ s₁ mg mb fa o pm cd doc a vs ns G Y ho hd hcd hmg hobj hints hlen _ hg => ?_
  have hl : ns.length ≤ sizeLine := Nat.le_trans hlen hn2
  obtain ⟨K, fd, sp, KX, hb, hF, hsp⟩ := F w mg fa _ Y G.T.g hmg
  have hobj : s₁.heap.get? a = some (scrO vs) := hobj
  generalize hH : scr K a vs ns = H
  have ns' : ∀ {b : Addr} {m : Str → Option Value}, s₁.heap.Ns b m → (hidT s₁.heap H).Ns b m := fun ⟨o, es, ep, e, d, r⟩ => ⟨o, es, ep, hidT_get e (hH ▸ scr_dict hobj e d), d, r⟩
  have kin : K.In (hidT s₁.heap H) := fun b o e => hidT_get (KX b o e) (hH ▸ scr_free b o e)
  have okH : HOk l.prog w H s₁.heap := hH ▸ scr_ok hobj hints hl
  have only : Only H := hH ▸ scr_only
  have env : Env0 l.prog w K mg (hidT s₁.heap H) callerA [] s₁ H := by
    refine ⟨rfl, ⟨kin, ns' G.T.g, ⟨mb, ns' G.T.b, G.T.builtins⟩, ?_⟩, fun b o e => of_hidT e, Nat.le_of_eq (hidT_size _ _), trivial, fun b z => (nomatch z), okH, .of_eq hg⟩
    obtain ⟨mc, h1, h2⟩ := G.T.nolimit
    exact ⟨mc, ns' h1, h2⟩
  have sq : SqL K H a (ns.map V.int) := hH ▸ scr_sq KX hobj hints hl
  have smod : ∃ o, (hidT s₁.heap H).get? sysModules = some o := by
    obtain ⟨ms, h1, _⟩ := (G.T.seer imp).mods
    obtain ⟨o, es, ep, e, _⟩ := ns' h1
    exact ⟨o, e⟩
  refine codeAny_mono ((hF _ kin (ns' G.T.g) smod).run callerA [] s₁ H ⟨[.ref a], []⟩ [.ref a] [.ref a] _ _ room rfl env (hb s₁ (.ref a)) (.cons rfl .nil) (hsp H a ns hlen only sq)) fun r s' z => ?_
  match r, z with
  | .error _, z => exact False.elim z
  | .ok .next, z => exact False.elim z
  | .ok .brk, z => exact False.elim z
  | .ok .cont, z => exact False.elim z
  | .ok (.ret u), ⟨v, H', os, bare, un, ok', rel, qv⟩ =>
    have ev : v = .bl true := qv
    subst ev
    obtain rfl : u = Value.bool true := rel
    refine ⟨rfl, OldK.of_keep fun b o e => ?_, os, bare⟩
    rcases only b with z | ⟨ob, xs, z⟩
    · exact un.keep b o e z (fun y => nomatch y) (fun y => nomatch y)
    · have z2 := un.frzs b ob _ z
      have e1 := (okH b _ z).1
      rw [e] at e1
      cases e1
      exact (ok' b _ z2).1
end Hd

namespace Cr
open PySem L2 Al
abbrev N_Array___init__ : List Str := ["self", "shape", "cells"]
theorem sc_Array___init__ : FnScope N_Array___init__ ["self", "shape", "cells"] (defScope s_Array___init__) := ⟨rfl, rfl, rfl, by decide +kernel, rfl, by decide +kernel, by decide +kernel⟩
abbrev N_Array___eq__ : List Str := ["self", "other"]
theorem sc_Array___eq__ : FnScope N_Array___eq__ ["self", "other"] (defScope s_Array___eq__) := ⟨rfl, rfl, rfl, by decide +kernel, rfl, by decide +kernel, by decide +kernel⟩
abbrev N_Array___str__ : List Str := ["self", "head", "tail", "size", "cell"]
theorem sc_Array___str__ : FnScope N_Array___str__ ["self"] (defScope s_Array___str__) := ⟨rfl, rfl, rfl, by decide +kernel, rfl, by decide +kernel, by decide +kernel⟩
abbrev N_Array___repr__ : List Str := ["self"]
theorem sc_Array___repr__ : FnScope N_Array___repr__ ["self"] (defScope s_Array___repr__) := ⟨rfl, rfl, rfl, by decide +kernel, rfl, by decide +kernel, by decide +kernel⟩
abbrev N_NoText___init__ : List Str := ["self", "text"]
theorem sc_NoText___init__ : FnScope N_NoText___init__ ["self", "text"] (defScope s_NoText___init__) := ⟨rfl, rfl, rfl, by decide +kernel, rfl, by decide +kernel, by decide +kernel⟩
abbrev N_is_whole : List Str := ["thing"]
theorem sc_is_whole : FnScope N_is_whole ["thing"] (defScope s_is_whole) := ⟨rfl, rfl, rfl, by decide +kernel, rfl, by decide +kernel, by decide +kernel⟩
abbrev N_is_from : List Str := ["thing", "least", "most"]
theorem sc_is_from : FnScope N_is_from ["thing", "least", "most"] (defScope s_is_from) := ⟨rfl, rfl, rfl, by decide +kernel, rfl, by decide +kernel, by decide +kernel⟩
abbrev N_whole_in : List Str := ["word", "figures", "sign"]
theorem sc_whole_in : FnScope N_whole_in ["word"] (defScope s_whole_in) := ⟨rfl, rfl, rfl, by decide +kernel, rfl, by decide +kernel, by decide +kernel⟩
abbrev N_is_shape : List Str := ["thing", "size"]
theorem sc_is_shape : FnScope N_is_shape ["thing"] (defScope s_is_shape) := ⟨rfl, rfl, rfl, by decide +kernel, rfl, by decide +kernel, by decide +kernel⟩
abbrev N_count : List Str := ["shape", "found", "size"]
theorem sc_count : FnScope N_count ["shape"] (defScope s_count) := ⟨rfl, rfl, rfl, by decide +kernel, rfl, by decide +kernel, by decide +kernel⟩
abbrev N_shape_in : List Str := ["text", "found", "word"]
theorem sc_shape_in : FnScope N_shape_in ["text"] (defScope s_shape_in) := ⟨rfl, rfl, rfl, by decide +kernel, rfl, by decide +kernel, by decide +kernel⟩
abbrev N_read_array : List Str := ["text", "head", "colon", "tail", "shape", "blank", "words", "cells", "word"]
theorem sc_read_array : FnScope N_read_array ["text"] (defScope s_read_array) := ⟨rfl, rfl, rfl, by decide +kernel, rfl, by decide +kernel, by decide +kernel⟩
abbrev N__law_feed : List Str := ["_law_script"]
theorem sc__law_feed : FnScope N__law_feed ["_law_script"] (defScope s__law_feed) := ⟨rfl, rfl, rfl, by decide +kernel, rfl, by decide +kernel, by decide +kernel⟩
abbrev N__law_draw : List Str := ["_law_feed_here", "_law_many", "_law_digit", "_law_at", "_law_cell", "_law_number_here", "_law_again"]
theorem sc__law_draw : FnScope N__law_draw ["_law_feed_here", "_law_many"] (defScope s__law_draw) := ⟨rfl, rfl, rfl, by decide +kernel, rfl, by decide +kernel, by decide +kernel⟩
abbrev N__law_of : List Str := ["_law_feed_here", "_law_some"]
theorem sc__law_of : FnScope N__law_of ["_law_feed_here", "_law_some"] (defScope s__law_of) := ⟨rfl, rfl, rfl, by decide +kernel, rfl, by decide +kernel, by decide +kernel⟩
abbrev N__law_count : List Str := ["_law_shape", "_law_found", "_law_size"]
theorem sc__law_count : FnScope N__law_count ["_law_shape"] (defScope s__law_count) := ⟨rfl, rfl, rfl, by decide +kernel, rfl, by decide +kernel, by decide +kernel⟩
abbrev N__law_number : List Str := ["_law_feed_here", "_law_way"]
theorem sc__law_number : FnScope N__law_number ["_law_feed_here"] (defScope s__law_number) := ⟨rfl, rfl, rfl, by decide +kernel, rfl, by decide +kernel, by decide +kernel⟩
abbrev N__law_base : List Str := ["_law_feed_here", "_law_axes", "_law_wide", "_law_k"]
theorem sc__law_base : FnScope N__law_base ["_law_feed_here", "_law_axes", "_law_wide"] (defScope s__law_base) := ⟨rfl, rfl, rfl, by decide +kernel, rfl, by decide +kernel, by decide +kernel⟩
abbrev N__law_array_text : List Str := ["_law_board", "_law_shape", "_law_cells", "_law_size", "_law_cell"]
theorem sc__law_array_text : FnScope N__law_array_text ["_law_board"] (defScope s__law_array_text) := ⟨rfl, rfl, rfl, by decide +kernel, rfl, by decide +kernel, by decide +kernel⟩
abbrev N__law_is_board : List Str := ["_law_array", "_law_board"]
theorem sc__law_is_board : FnScope N__law_is_board ["_law_array", "_law_board"] (defScope s__law_is_board) := ⟨rfl, rfl, rfl, by decide +kernel, rfl, by decide +kernel, by decide +kernel⟩
abbrev N__law_great : List Str := ["_law_feed_here", "_law_far"]
theorem sc__law_great : FnScope N__law_great ["_law_feed_here"] (defScope s__law_great) := ⟨rfl, rfl, rfl, by decide +kernel, rfl, by decide +kernel, by decide +kernel⟩
abbrev N__law_figures : List Str := ["_law_word", "_law_figures_here", "_law_sign"]
theorem sc__law_figures : FnScope N__law_figures ["_law_word"] (defScope s__law_figures) := ⟨rfl, rfl, rfl, by decide +kernel, rfl, by decide +kernel, by decide +kernel⟩
abbrev N__law_read : List Str := ["_law_thing", "_law_head", "_law_tail", "_law_shape", "_law_cells", "_law_word", "_law_size"]
theorem sc__law_read : FnScope N__law_read ["_law_thing"] (defScope s__law_read) := ⟨rfl, rfl, rfl, by decide +kernel, rfl, by decide +kernel, by decide +kernel⟩
abbrev N__law_spoilt : List Str := ["_law_feed_here", "_law_told_here", "_law_signs", "_law_at", "_law_sign", "_law_way", "_law_words", "_law_spot", "_law_menu", "_law_ahead", "_law_behind", "_law_more", "_law_begin", "_law_rest", "_law_some"]
theorem sc__law_spoilt : FnScope N__law_spoilt ["_law_feed_here", "_law_told_here"] (defScope s__law_spoilt) := ⟨rfl, rfl, rfl, by decide +kernel, rfl, by decide +kernel, by decide +kernel⟩
abbrev N__law_told : List Str := ["_law_thing", "_law_found", "_law_error", "e", "_law_alone"]
theorem sc__law_told : FnScope N__law_told ["_law_thing"] (defScope s__law_told) := ⟨rfl, rfl, rfl, by decide +kernel, rfl, by decide +kernel, by decide +kernel⟩
abbrev N_law : List Str := ["_law_script", "_law_feed_here", "_law_last", "_law_odd", "_law_turn", "_law_shape", "_law_board", "_law_told_here", "_law_array", "_law_again", "_law_thing", "_law_due", "_law_wanted", "_law_whole", "_law_k", "_law_cell"]
theorem sc_law : FnScope N_law ["_law_script"] (defScope s_law) := ⟨rfl, rfl, rfl, by decide +kernel, rfl, by decide +kernel, by decide +kernel⟩

structure Tx (w : World) (K : PySem.W.Frag) (mg : Str → Option Value) where
  C_Array : Addr
  C_NoText : Addr
  C_NoShape : Addr
  C_Miscount : Addr
  C_NoTree : Addr
  Array___init__ : MtAt K C_Array "__init__" "Array.__init__" s_Array___init__ ["self", "shape", "cells"]
  Array___eq__ : MtAt K C_Array "__eq__" "Array.__eq__" s_Array___eq__ ["self", "other"]
  Array___str__ : MtAt K C_Array "__str__" "Array.__str__" s_Array___str__ ["self"]
  Array___repr__ : MtAt K C_Array "__repr__" "Array.__repr__" s_Array___repr__ ["self"]
  Array : ClAt K mg "Array" C_Array Array___init__.f
  ow_Array : OwnE K C_Array Array___eq__.f
  ot_Array : OwnT K C_Array
  kc_Array : ((PySem.W.clsIn K C_Array).isSome && PySem.W.typeIn K (.ref C_Array) == some (.type "type")) = true
  n_Array_shape : NoAttr K C_Array "shape"
  n_Array_cells : NoAttr K C_Array "cells"
  NoText___init__ : MtAt K C_NoText "__init__" "NoText.__init__" s_NoText___init__ ["self", "text"]
  x_NoText : ExB K C_NoText "ValueError" "ValueError.__new__" "ValueError.__init__" [.type "ValueError", .type "Exception", .type "BaseException", .type "object"]
  s_NoText : PySem.W.exmOne K (.ref C_NoText) (.ref C_NoText) = some true
  n_NoText_text : NoAttr K C_NoText "text"
  m_NoText : mg "NoText" = some (.ref C_NoText)
  m_NoShape : mg "NoShape" = some (.ref C_NoShape)
  m_Miscount : mg "Miscount" = some (.ref C_Miscount)
  m_NoTree : mg "NoTree" = some (.ref C_NoTree)
  be_ValueError : BltE K "ValueError" "ValueError" "ValueError.__init__"
  t_MOST_AXES : Tok
  c_MOST_AXES : mg "MOST_AXES" = some (.int 6 t_MOST_AXES)
  t_MOST_SIZE : Tok
  c_MOST_SIZE : mg "MOST_SIZE" = some (.int 4000 t_MOST_SIZE)
  t_MOST_FIGURES : Tok
  c_MOST_FIGURES : mg "MOST_FIGURES" = some (.int 4000 t_MOST_FIGURES)
  t_FIGURES : Tok
  c_FIGURES : mg "FIGURES" = some (.str "0123456789" t_FIGURES)
  nf_Array : ∀ n ∈ (["NoneType", "bool", "int", "str", "list", "tuple", "dict"] : List String), PySem.W.notFirst K C_Array (.type n) = true
  kf_Array : ∀ n ∈ (["NoneType", "bool", "int", "str", "list", "tuple", "dict"] : List String), PySem.W.kitOne K (.type n) (.ref C_Array) = some false
  nb_Array : PySem.W.findIn K (.ref C_Array) "__bool__" = some none
  an_NoText : PySem.W.exmAny K (.ref C_NoText) [.ref C_NoText] = some true
  kv_NoText : PySem.W.kitOne K (.ref C_NoText) (.type "ValueError") = some true
  kt_NoText : PySem.W.kitAny K (.ref C_NoText) [.ref C_NoShape, .ref C_Miscount, .ref C_NoTree] = some false
  lim : LimK K
  is_whole : FnAt K mg "is_whole" "is_whole" s_is_whole ["thing"]
  is_from : FnAt K mg "is_from" "is_from" s_is_from ["thing", "least", "most"]
  whole_in : FnAt K mg "whole_in" "whole_in" s_whole_in ["word"]
  is_shape : FnAt K mg "is_shape" "is_shape" s_is_shape ["thing"]
  count : FnAt K mg "count" "count" s_count ["shape"]
  shape_in : FnAt K mg "shape_in" "shape_in" s_shape_in ["text"]
  read_array : FnAt K mg "read_array" "read_array" s_read_array ["text"]
  _law_feed : FnAt K mg "_law_feed" "_law_feed" s__law_feed ["_law_script"]
  _law_draw : FnAt K mg "_law_draw" "_law_draw" s__law_draw ["_law_feed_here", "_law_many"]
  _law_of : FnAt K mg "_law_of" "_law_of" s__law_of ["_law_feed_here", "_law_some"]
  _law_count : FnAt K mg "_law_count" "_law_count" s__law_count ["_law_shape"]
  _law_number : FnAt K mg "_law_number" "_law_number" s__law_number ["_law_feed_here"]
  _law_base : FnAt K mg "_law_base" "_law_base" s__law_base ["_law_feed_here", "_law_axes", "_law_wide"]
  _law_array_text : FnAt K mg "_law_array_text" "_law_array_text" s__law_array_text ["_law_board"]
  _law_is_board : FnAt K mg "_law_is_board" "_law_is_board" s__law_is_board ["_law_array", "_law_board"]
  _law_great : FnAt K mg "_law_great" "_law_great" s__law_great ["_law_feed_here"]
  _law_figures : FnAt K mg "_law_figures" "_law_figures" s__law_figures ["_law_word"]
  _law_read : FnAt K mg "_law_read" "_law_read" s__law_read ["_law_thing"]
  _law_spoilt : FnAt K mg "_law_spoilt" "_law_spoilt" s__law_spoilt ["_law_feed_here", "_law_told_here"]
  _law_told : FnAt K mg "_law_told" "_law_told" s__law_told ["_law_thing"]
  b_len : mg "len" = none
  b_list : mg "list" = none
  b_range : mg "range" = none
  b_isinstance : mg "isinstance" = none
  b_int : mg "int" = none
  b_bool : mg "bool" = none
  b_str : mg "str" = none
  b_tuple : mg "tuple" = none
  b_dict : mg "dict" = none
  b_all : mg "all" = none
  b_abs : mg "abs" = none
  b_repr : mg "repr" = none
  b_max : mg "max" = none
  b_min : mg "min" = none
  b_enumerate : mg "enumerate" = none
  b_zip : mg "zip" = none
  b_reversed : mg "reversed" = none
  b_sorted : mg "sorted" = none
  b_sum : mg "sum" = none
  b_any : mg "any" = none
  b_ValueError : mg "ValueError" = none
def nmX : Nat → List Str
  | 0 => ["shape", "cells"]
  | 1 => ["text"]
  | 2 => []
  | 3 => []
  | 4 => []
  | _ => []
def Tx.tb {w : World} {K : PySem.W.Frag} {mg : Str → Option Value} (T : Tx w K mg) : Al.Tb := ⟨fun c => match c with
  | 0 => T.C_Array
  | 1 => T.C_NoText
  | 2 => T.C_NoShape
  | 3 => T.C_Miscount
  | 4 => T.C_NoTree
  | _ => 0, nmX⟩
abbrev cfx {w : World} {K : PySem.W.Frag} {mg : Str → Option Value} (T : Tx w K mg) (O : List Nat) (np : Nat) : Al.Cf := { K := K, cl := T.tb, O := O, np := np }
theorem nmNd (c : Nat) : (nmX c).Nodup := by
  unfold nmX
  split <;> decide +kernel
theorem Tx.eqk {w : World} {K : PySem.W.Frag} {mg : Str → Option Value} (T : Tx w K mg) : EqK K T.tb 0 T.Array___eq__.f := ⟨T.ow_Array, T.ot_Array, T.nf_Array⟩
section
variable {P : Program} {w : World} {K : PySem.W.Frag} {mg : Str → Option Value} {base : Heap}
-- is_whole : 0:thing
def B_is_whole : AS := (sRet (aAnd (aIs (isT "int") (aV 0)) (aNot (aIs (isT "bool") (aV 0)))))
def F_is_whole : AF0 := fun ds P _ => match ds with
  | [a0] => B_is_whole  (endP P NX) [some a0]
  | _ => False
theorem F_is_whole_len : ∀ ds P X, F_is_whole ds P X → ds.length = 1 := fun ds P X h => by
  unfold F_is_whole at h
  split at h
  · rfl
  · exact h.elim
theorem ok_is_whole (T : Tx w K mg) : FnOk P w K mg base CX0 1 T.is_whole.f T.is_whole.fd ["thing"] (Lift (cfx T ([] : List Nat) 1) (af0 F_is_whole)) :=
  T.is_whole.F.ok (k := 0) sc_is_whole (Lift.len (cf := (cfx T ([] : List Nat) 1)) (F := af0 (F_is_whole)) (fun ds P X h => F_is_whole_len ds _ X h)) (fun cdv A outer s H vs Q E hr h => ⟨_, (show Eb _ (cfx T ([] : List Nat) 1) W0 _ B_is_whole from (b_one (s_ret (e_and (e_isi (by rfl) T.b_isinstance (e_var (pv 0) (by decide : ¬ (0 : Nat) ∈ ([] : List Nat))) (pe_bltn (v := V.ty "int") (by rfl) T.b_int (by decide +kernel) rfl) (.ty "int") is_int) (e_one (e_not (e_isi (by rfl) T.b_isinstance (e_var (pv 0) (by decide : ¬ (0 : Nat) ∈ ([] : List Nat))) (pe_bltn (v := V.ty "bool") (by rfl) T.b_bool (by decide +kernel) rfl) (.ty "bool") is_bool))))))), bodyN F_is_whole_len (fun ds P X h => by
      unfold F_is_whole at h
      split at h
      · exact h
      · exact h.elim) rfl (by decide : ∀ i ∈ ([] : List Nat), 1 ≤ i) h⟩)
-- is_from : 0:thing 1:least 2:most
def B_is_from : AS := (sRet (aAnd (aCall F_is_whole (aCons (aV 0) aNil)) (aAnd (aO oGe (aV 0) (aV 1)) (aOr (aO oIsN (aV 2) (aC .non)) (aO oLe (aV 0) (aV 2))))))
def F_is_from : AF0 := fun ds P _ => match ds with
  | [a0, a1, a2] => B_is_from  (endP P NX) [some a0, some a1, some a2]
  | _ => False
theorem F_is_from_len : ∀ ds P X, F_is_from ds P X → ds.length = 3 := fun ds P X h => by
  unfold F_is_from at h
  split at h
  · rfl
  · exact h.elim
theorem ok_is_from (T : Tx w K mg) : FnOk P w K mg base CX0 2 T.is_from.f T.is_from.fd ["thing", "least", "most"] (Lift (cfx T ([] : List Nat) 3) (af0 F_is_from)) :=
  T.is_from.F.ok (k := 1) sc_is_from (Lift.len (cf := (cfx T ([] : List Nat) 3)) (F := af0 (F_is_from)) (fun ds P X h => F_is_from_len ds _ X h)) (fun cdv A outer s H vs Q E hr h => ⟨_, (show Eb _ (cfx T ([] : List Nat) 3) W0 _ B_is_from from (b_one (s_ret (e_and (e_call (cg := (cfx T ([] : List Nat) 1)) (runOk (ok_is_whole T) (hr.mono (by decide)) T.is_whole.b (fun σ => at00 σ)) F_is_whole_len (by decide : ∀ i ∈ ([] : List Nat), 1 ≤ i) (by rfl) T.is_whole.mg T.is_whole.F.kp (a_cons (e_var (pv 0) (by decide : ¬ (0 : Nat) ∈ ([] : List Nat))) a_nil)) (e_and (e_cmp op_ge rl_ge (e_var (pv 0) (by decide : ¬ (0 : Nat) ∈ ([] : List Nat))) (e_var (pv 1) (by decide : ¬ (1 : Nat) ∈ ([] : List Nat)))) (e_one (e_or (e_cmp op_isN rl_isN (e_var (pv 2) (by decide : ¬ (2 : Nat) ∈ ([] : List Nat))) e_non) (e_one (e_cmp op_le rl_le (e_var (pv 0) (by decide : ¬ (0 : Nat) ∈ ([] : List Nat))) (e_var (pv 2) (by decide : ¬ (2 : Nat) ∈ ([] : List Nat)))))))))))), bodyN F_is_from_len (fun ds P X h => by
      unfold F_is_from at h
      split at h
      · exact h
      · exact h.elim) rfl (by decide : ∀ i ∈ ([] : List Nat), 3 ≤ i) h⟩)
-- whole_in : 0:word 1:figures 2:sign
def B_whole_in : AS := (sSeq (sSet 1 (aIf (aTr (aM1 mStarts (aV 0) (aC (.str "-")))) (aSl slA (aV 0) (pS (aC (.int 1))) pN) (aV 0)))
 (sSeq (sIf (aTOr (aTNot (aB (aCh oLe oLe (aC (.int 1)) (aF fLenA (aCons (aV 1) aNil)) (aC (.int 4000))))) (aTNot (aB (aF fAll (aCons (aLc (iS (aV 1)) (Tg.a (.nm 2)) tY (aO (oInA false) (aV 2) (aC (.str "0123456789"))) [2]) aNil)))))
 (sRet (aC .non))
 sNext)
 (sSeq (sIf (aTAnd (aB (aO oEqA (aO oIx (aV 1) (aC (.int 0))) (aC (.str "0")))) (aB (aO oNeA (aV 0) (aC (.str "0")))))
 (sRet (aC .non))
 sNext)
 (sRet (aF fIntB (aCons (aV 0) aNil))))))
def F_whole_in : AF0 := fun ds P _ => match ds with
  | [a0] => B_whole_in  (endP P NX) [some a0, none, none]
  | _ => False
theorem F_whole_in_len : ∀ ds P X, F_whole_in ds P X → ds.length = 1 := fun ds P X h => by
  unfold F_whole_in at h
  split at h
  · rfl
  · exact h.elim
theorem ok_whole_in (T : Tx w K mg) : FnOk P w K mg base CX0 1 T.whole_in.f T.whole_in.fd ["word"] (Lift (cfx T ([] : List Nat) 1) (af0 F_whole_in)) :=
  T.whole_in.F.ok (k := 0) sc_whole_in (Lift.len (cf := (cfx T ([] : List Nat) 1)) (F := af0 (F_whole_in)) (fun ds P X h => F_whole_in_len ds _ X h)) (fun cdv A outer s H vs Q E hr h => ⟨_, (show Eb _ (cfx T ([] : List Nat) 1) W0 _ B_whole_in from (b_cons (s_set (i := 1) sc_whole_in.nd rfl (Or.inl rfl) (by decide : ¬ (1 : Nat) ∈ ([] : List Nat)) (e_if (t_truth (e_starts (e_var (pv 0) (by decide : ¬ (0 : Nat) ∈ ([] : List Nat))) e_str)) (e_slice sl_all rl_slA (e_var (pv 0) (by decide : ¬ (0 : Nat) ∈ ([] : List Nat))) (o_some e_int) o_none) (e_var (pv 0) (by decide : ¬ (0 : Nat) ∈ ([] : List Nat)))))
 (b_cons (s_if (t_w (w_or (t_not (t_chain op_le op_le rl_le rl_le e_int (e_callB call_lenA rl_lenA (by rfl) T.b_len (by decide +kernel) (a_cons (e_var (pv 1) (by decide : ¬ (1 : Nat) ∈ ([] : List Nat))) a_nil)) (e_const (pe_glob (v := V.int 4000) (by rfl) T.c_MOST_FIGURES ⟨_, rfl⟩) fun _ => .int _))) (w_or1 (t_not (t_val (e_callB (cr_all rfl) rl_all (by rfl) T.b_all (by decide +kernel) (a_cons (e_new (f_lc (own := [("sign", 2)]) (t := (.nm 2)) rfl sc_whole_in.nd (i_str (e_var (pv 1) (by decide : ¬ (1 : Nat) ∈ ([] : List Nat)))) (blkOk_by (own := [("sign", 2)]) (N := N_whole_in) (sc := defScope s_whole_in) (by decide +kernel)) (fun _ _ _ _ _ => (pg_name (i := 2) sc_whole_in.nd rfl (Or.inl rfl))) (fun _ _ _ _ _ => ts_nil) (fun _ _ _ _ _ => (e_cmp op_inA rl_inA (e_var (pv 2) (by decide : ¬ (2 : Nat) ∈ ([] : List Nat))) (e_const (pe_glob (v := V.str "0123456789") (by rfl) T.c_FIGURES ⟨_, rfl⟩) fun _ => .str _))) (by decide : ∀ i ∈ ([2] : List Nat), ¬ i ∈ ([] : List Nat)) (by decide : ∀ i ∈ ([2] : List Nat), i ∈ ([2] : List Nat)))) a_nil)))))))
 (b_one (s_ret e_non))
 b_nil)
 (b_cons (s_if (t_w (w_and (t_cmp (op_eqA hr.units) rl_eqA (e_ix ix_seq rl_ix (e_var (pv 1) (by decide : ¬ (1 : Nat) ∈ ([] : List Nat))) e_int) e_str) (w_and1 (t_cmp (op_neA hr.units) rl_neA (e_var (pv 0) (by decide : ¬ (0 : Nat) ∈ ([] : List Nat))) e_str))))
 (b_one (s_ret e_non))
 b_nil)
 (b_one (s_ret (e_callTy (call_int_strB T.lim) rl_intB (by rfl) T.b_int (by decide +kernel) (a_cons (e_var (pv 0) (by decide : ¬ (0 : Nat) ∈ ([] : List Nat))) a_nil)))))))), bodyN F_whole_in_len (fun ds P X h => by
      unfold F_whole_in at h
      split at h
      · exact h
      · exact h.elim) rfl (by decide : ∀ i ∈ ([] : List Nat), 1 ≤ i) h⟩)
-- is_shape : 0:thing 1:size
def B_is_shape : AS := (sSeq (sIf (aTOr (aTNot (aB (aIs (isT "tuple") (aV 0)))) (aB (aO oGt (aF fLenA (aCons (aV 0) aNil)) (aC (.int 6)))))
 (sRet (aC (.bl false)))
 sNext)
 (sRet (aF fAll (aCons (aLc (iT (aV 0)) (Tg.a (.nm 1)) tY (aCall F_is_from (aCons (aV 1) (aCons (aC (.int 0)) (aCons (aC (.int 4000)) aNil)))) [1]) aNil))))
def F_is_shape : AF0 := fun ds P _ => match ds with
  | [a0] => B_is_shape  (endP P NX) [some a0, none]
  | _ => False
theorem F_is_shape_len : ∀ ds P X, F_is_shape ds P X → ds.length = 1 := fun ds P X h => by
  unfold F_is_shape at h
  split at h
  · rfl
  · exact h.elim
theorem ok_is_shape (T : Tx w K mg) : FnOk P w K mg base CX0 3 T.is_shape.f T.is_shape.fd ["thing"] (Lift (cfx T ([] : List Nat) 1) (af0 F_is_shape)) :=
  T.is_shape.F.ok (k := 2) sc_is_shape (Lift.len (cf := (cfx T ([] : List Nat) 1)) (F := af0 (F_is_shape)) (fun ds P X h => F_is_shape_len ds _ X h)) (fun cdv A outer s H vs Q E hr h => ⟨_, (show Eb _ (cfx T ([] : List Nat) 1) W0 _ B_is_shape from (b_cons (s_if (t_w (w_or (t_not (t_val (e_isi (by rfl) T.b_isinstance (e_var (pv 0) (by decide : ¬ (0 : Nat) ∈ ([] : List Nat))) (pe_bltn (v := V.ty "tuple") (by rfl) T.b_tuple (by decide +kernel) rfl) (.ty "tuple") is_tuple))) (w_or1 (t_cmp op_gt rl_gt (e_callB call_lenA rl_lenA (by rfl) T.b_len (by decide +kernel) (a_cons (e_var (pv 0) (by decide : ¬ (0 : Nat) ∈ ([] : List Nat))) a_nil)) (e_const (pe_glob (v := V.int 6) (by rfl) T.c_MOST_AXES ⟨_, rfl⟩) fun _ => .int _)))))
 (b_one (s_ret e_bl))
 b_nil)
 (b_one (s_ret (e_callB (cr_all rfl) rl_all (by rfl) T.b_all (by decide +kernel) (a_cons (e_new (f_lc (own := [("size", 1)]) (t := (.nm 1)) rfl sc_is_shape.nd (i_tup (e_var (pv 0) (by decide : ¬ (0 : Nat) ∈ ([] : List Nat)))) (blkOk_by (own := [("size", 1)]) (N := N_is_shape) (sc := defScope s_is_shape) (by decide +kernel)) (fun _ _ _ _ _ => (pg_name (i := 1) sc_is_shape.nd rfl (Or.inl rfl))) (fun _ _ _ _ _ => ts_nil) (fun _ _ _ _ _ => (e_call (cg := (cfx T ([] : List Nat) 3)) (runOk (ok_is_from T) (hr.mono (by decide)) T.is_from.b (fun σ => at00 σ)) F_is_from_len (by decide : ∀ i ∈ ([] : List Nat), 3 ≤ i) (by rfl) T.is_from.mg T.is_from.F.kp (a_cons (e_var (pv 1) (by decide : ¬ (1 : Nat) ∈ ([] : List Nat))) (a_cons e_int (a_cons (e_const (pe_glob (v := V.int 4000) (by rfl) T.c_MOST_SIZE ⟨_, rfl⟩) fun _ => .int _) a_nil))))) (by decide : ∀ i ∈ ([1] : List Nat), ¬ i ∈ ([] : List Nat)) (by decide : ∀ i ∈ ([1] : List Nat), i ∈ ([1] : List Nat)))) a_nil)))))), bodyN F_is_shape_len (fun ds P X h => by
      unfold F_is_shape at h
      split at h
      · exact h
      · exact h.elim) rfl (by decide : ∀ i ∈ ([] : List Nat), 1 ≤ i) h⟩)
-- count : 0:shape 1:found 2:size
def B_count : AS := (sSeq (sSet 1 (aC (.int 1)))
 (sSeq (sFor (iT (aV 0)) (Tg.a (.nm 2))
 (sAug 1 oMulW (aV 2)))
 (sRet (aV 1))))
def F_count : AF0 := fun ds P _ => match ds with
  | [a0] => B_count  (endP P NX) [some a0, none, none]
  | _ => False
theorem F_count_len : ∀ ds P X, F_count ds P X → ds.length = 1 := fun ds P X h => by
  unfold F_count at h
  split at h
  · rfl
  · exact h.elim
theorem ok_count (T : Tx w K mg) : FnOk P w K mg base CX0 1 T.count.f T.count.fd ["shape"] (Lift (cfx T ([] : List Nat) 1) (af0 F_count)) :=
  T.count.F.ok (k := 0) sc_count (Lift.len (cf := (cfx T ([] : List Nat) 1)) (F := af0 (F_count)) (fun ds P X h => F_count_len ds _ X h)) (fun cdv A outer s H vs Q E hr h => ⟨_, (show Eb _ (cfx T ([] : List Nat) 1) W0 _ B_count from (b_cons (s_set (i := 1) sc_count.nd rfl (Or.inl rfl) (by decide : ¬ (1 : Nat) ∈ ([] : List Nat)) e_int)
 (b_cons (s_for PassesOwn.never rfl (i_tup (e_var (pv 0) (by decide : ¬ (0 : Nat) ∈ ([] : List Nat)))) (g_tg (t := (.nm 2)) (pg_name (i := 2) sc_count.nd rfl (Or.inl rfl)) (by decide : ∀ j ∈ ([2] : List Nat), ¬ j ∈ ([] : List Nat)))
 (b_one (s_aug (i := 1) sc_count.nd rfl (Or.inl rfl) (by decide : ¬ (1 : Nat) ∈ ([] : List Nat)) (e_var (pv 2) (by decide : ¬ (2 : Nat) ∈ ([] : List Nat))) ip_mulW rl_mulW (h := fun h => ps_aug (i := 1) sc_count.nd rfl (Or.inl rfl) h ip_mulW))))
 (b_one (s_ret (e_var (pv 1) (by decide : ¬ (1 : Nat) ∈ ([] : List Nat)))))))), bodyN F_count_len (fun ds P X h => by
      unfold F_count at h
      split at h
      · exact h
      · exact h.elim) rfl (by decide : ∀ i ∈ ([] : List Nat), 1 ≤ i) h⟩)
-- Array.__init__ : 0:self 1:shape 2:cells
def B_Array___init__ : AS := (sSeq (sIf (aTNot (aB (aCall F_is_shape (aCons (aV 1) aNil))))
 sDead
 sNext)
 (sSeq (sIf (aB (aO oNeA (aF fLenA (aCons (aV 2) aNil)) (aCall F_count (aCons (aV 1) aNil))))
 sDead
 sNext)
 (sSeq (sFldO 0 0 0 (aV 1))
 (sFldO 0 0 1 (aF fTuple (aCons (aV 2) aNil))))))
def F_Array___init__ : AFo := fun a0 ds P _ => match ds with
  | [a1, a2] => B_Array___init__  (endO P NX) [some a0, some a1, some a2]
  | _ => False
theorem F_Array___init___len : ∀ o ds P X, F_Array___init__ o ds P X → ds.length + 1 = 3 := fun o ds P X h => by
  unfold F_Array___init__ at h
  split at h
  · rfl
  · exact h.elim
theorem ok_Array___init__ (T : Tx w K mg) : FnOk P w K mg base CX0 4 T.Array___init__.f T.Array___init__.fd ["self", "shape", "cells"] (Lift (cfx T ([0] : List Nat) 3) (afo F_Array___init__)) :=
  T.Array___init__.F.ok (k := 3) sc_Array___init__ (Lift.len (cf := (cfx T ([0] : List Nat) 3)) (F := afo (F_Array___init__)) (fun ds P X h => by
      cases ds with
      | nil => exact h.elim
      | cons o ds => exact F_Array___init___len o ds _ X h)) (fun cdv A outer s H vs Q E hr h => ⟨_, (show Eb _ (cfx T ([0] : List Nat) 3) W0 _ B_Array___init__ from (b_cons (s_if (t_not (t_val (e_call (cg := (cfx T ([] : List Nat) 1)) (runOk (ok_is_shape T) (hr.mono (by decide)) T.is_shape.b (fun σ => at00 σ)) F_is_shape_len (by decide : ∀ i ∈ ([] : List Nat), 1 ≤ i) (by rfl) T.is_shape.mg T.is_shape.F.kp (a_cons (e_var (pv 1) (by decide : ¬ (1 : Nat) ∈ ([0] : List Nat))) a_nil))))
 (b_one s_dead)
 b_nil)
 (b_cons (s_if (t_cmp (op_neA hr.units) rl_neA (e_callB call_lenA rl_lenA (by rfl) T.b_len (by decide +kernel) (a_cons (e_var (pv 2) (by decide : ¬ (2 : Nat) ∈ ([0] : List Nat))) a_nil)) (e_call (cg := (cfx T ([] : List Nat) 1)) (runOk (ok_count T) (hr.mono (by decide)) T.count.b (fun σ => at00 σ)) F_count_len (by decide : ∀ i ∈ ([] : List Nat), 1 ≤ i) (by rfl) T.count.mg T.count.F.kp (a_cons (e_var (pv 1) (by decide : ¬ (1 : Nat) ∈ ([0] : List Nat))) a_nil)))
 (b_one s_dead)
 b_nil)
 (b_cons (s_fldO (c := 0) (k := 0) (C := T.C_Array) rfl T.Array.cl T.n_Array_shape (nmNd 0) (by decide : 2 < 1000) rfl (pv 0) (by decide : (0 : Nat) ∈ ([0] : List Nat)) (e_var (pv 1) (by decide : ¬ (1 : Nat) ∈ ([0] : List Nat))))
 (b_one (s_fldO (c := 0) (k := 1) (C := T.C_Array) rfl T.Array.cl T.n_Array_cells (nmNd 0) (by decide : 2 < 1000) rfl (pv 0) (by decide : (0 : Nat) ∈ ([0] : List Nat)) (e_callTy call_tuple_of rl_tuple (by rfl) T.b_tuple (by decide +kernel) (a_cons (e_var (pv 2) (by decide : ¬ (2 : Nat) ∈ ([0] : List Nat))) a_nil)))))))), bodyON F_Array___init___len (fun o ds P X h => by
      unfold F_Array___init__ at h
      split at h
      · exact h
      · exact h.elim) rfl (by decide : 0 ∈ ([0] : List Nat)) (by decide : ∀ i ∈ ([0] : List Nat), i = 0 ∨ 3 ≤ i) (by decide : 0 < 3) h⟩)
-- Array.__eq__ : 0:self 1:other
def B_Array___eq__ : AS := (sRet (aAnd (aIs (isCA 0) (aV 1)) (aAnd (aO oEqA (aFld 0 0 (aV 0)) (aFld 0 0 (aV 1))) (aO oEqA (aFld 0 1 (aV 0)) (aFld 0 1 (aV 1))))))
def F_Array___eq__ : AF0 := fun ds P _ => match ds with
  | [a0, a1] => B_Array___eq__  (endP P NX) [some a0, some a1]
  | _ => False
theorem F_Array___eq___len : ∀ ds P X, F_Array___eq__ ds P X → ds.length = 2 := fun ds P X h => by
  unfold F_Array___eq__ at h
  split at h
  · rfl
  · exact h.elim
theorem ok_Array___eq__ (T : Tx w K mg) : FnOk P w K mg base CX0 1 T.Array___eq__.f T.Array___eq__.fd ["self", "other"] (Lift (cfx T ([] : List Nat) 2) (af0 F_Array___eq__)) :=
  T.Array___eq__.F.ok (k := 0) sc_Array___eq__ (Lift.len (cf := (cfx T ([] : List Nat) 2)) (F := af0 (F_Array___eq__)) (fun ds P X h => F_Array___eq___len ds _ X h)) (fun cdv A outer s H vs Q E hr h => ⟨_, (show Eb _ (cfx T ([] : List Nat) 2) W0 _ B_Array___eq__ from (b_one (s_ret (e_and (e_isi (by rfl) T.b_isinstance (e_var (pv 1) (by decide : ¬ (1 : Nat) ∈ ([] : List Nat))) (pe_glob (v := V.ref T.C_Array) (by rfl) T.Array.mg rfl) (.own T.C_Array) (isCA_ok (c := 0) rfl T.ot_Array T.kf_Array)) (e_and (e_cmp (op_eqA hr.units) rl_eqA (e_fld (c := 0) (k := 0) (C := T.C_Array) rfl T.Array.cl T.n_Array_shape (nmNd 0) rfl (e_var (pv 0) (by decide : ¬ (0 : Nat) ∈ ([] : List Nat)))) (e_fld (c := 0) (k := 0) (C := T.C_Array) rfl T.Array.cl T.n_Array_shape (nmNd 0) rfl (e_var (pv 1) (by decide : ¬ (1 : Nat) ∈ ([] : List Nat))))) (e_one (e_cmp (op_eqA hr.units) rl_eqA (e_fld (c := 0) (k := 1) (C := T.C_Array) rfl T.Array.cl T.n_Array_cells (nmNd 0) rfl (e_var (pv 0) (by decide : ¬ (0 : Nat) ∈ ([] : List Nat)))) (e_fld (c := 0) (k := 1) (C := T.C_Array) rfl T.Array.cl T.n_Array_cells (nmNd 0) rfl (e_var (pv 1) (by decide : ¬ (1 : Nat) ∈ ([] : List Nat))))))))))), bodyN F_Array___eq___len (fun ds P X h => by
      unfold F_Array___eq__ at h
      split at h
      · exact h
      · exact h.elim) rfl (by decide : ∀ i ∈ ([] : List Nat), 2 ≤ i) h⟩)
-- Array.__str__ : 0:self 1:head 2:tail 3:size 4:cell
def B_Array___str__ : AS := (sSeq (sSet 1 (aM1 mJoin (aC (.str " ")) (aLc (iT (aFld 0 0 (aV 0))) (Tg.a (.nm 3)) tY (aF fStrA (aCons (aV 3) aNil)) [3])))
 (sSeq (sSet 2 (aM1 mJoin (aC (.str "")) (aLc (iT (aFld 0 1 (aV 0))) (Tg.a (.nm 4)) tY (aJ [(aC (.str " ")), (aU oFmtB (aV 4))]) [4])))
 (sRet (aJ [(aU oFmt (aV 1)), (aC (.str ":")), (aU oFmt (aV 2))]))))
def F_Array___str__ : AF0 := fun ds P _ => match ds with
  | [a0] => B_Array___str__  (endP P NX) [some a0, none, none, none, none]
  | _ => False
theorem F_Array___str___len : ∀ ds P X, F_Array___str__ ds P X → ds.length = 1 := fun ds P X h => by
  unfold F_Array___str__ at h
  split at h
  · rfl
  · exact h.elim
theorem ok_Array___str__ (T : Tx w K mg) : FnOk P w K mg base CX0 1 T.Array___str__.f T.Array___str__.fd ["self"] (Lift (cfx T ([] : List Nat) 1) (af0 F_Array___str__)) :=
  T.Array___str__.F.ok (k := 0) sc_Array___str__ (Lift.len (cf := (cfx T ([] : List Nat) 1)) (F := af0 (F_Array___str__)) (fun ds P X h => F_Array___str___len ds _ X h)) (fun cdv A outer s H vs Q E hr h => ⟨_, (show Eb _ (cfx T ([] : List Nat) 1) W0 _ B_Array___str__ from (b_cons (s_set (i := 1) sc_Array___str__.nd rfl (Or.inl rfl) (by decide : ¬ (1 : Nat) ∈ ([] : List Nat)) (e_join e_str (e_new (f_lc (own := [("size", 3)]) (t := (.nm 3)) rfl sc_Array___str__.nd (i_tup (e_fld (c := 0) (k := 0) (C := T.C_Array) rfl T.Array.cl T.n_Array_shape (nmNd 0) rfl (e_var (pv 0) (by decide : ¬ (0 : Nat) ∈ ([] : List Nat))))) (blkOk_by (own := [("size", 3)]) (N := N_Array___str__) (sc := defScope s_Array___str__) (by decide +kernel)) (fun _ _ _ _ _ => (pg_name (i := 3) sc_Array___str__.nd rfl (Or.inl rfl))) (fun _ _ _ _ _ => ts_nil) (fun _ _ _ _ _ => (e_callTy call_strA rl_strA (by rfl) T.b_str (by decide +kernel) (a_cons (e_var (pv 3) (by decide : ¬ (3 : Nat) ∈ ([] : List Nat))) a_nil))) (by decide : ∀ i ∈ ([3] : List Nat), ¬ i ∈ ([] : List Nat)) (by decide : ∀ i ∈ ([3] : List Nat), i ∈ ([3] : List Nat))))))
 (b_cons (s_set (i := 2) sc_Array___str__.nd rfl (Or.inl rfl) (by decide : ¬ (2 : Nat) ∈ ([] : List Nat)) (e_join e_str (e_new (f_lc (own := [("cell", 4)]) (t := (.nm 4)) rfl sc_Array___str__.nd (i_tup (e_fld (c := 0) (k := 1) (C := T.C_Array) rfl T.Array.cl T.n_Array_cells (nmNd 0) rfl (e_var (pv 0) (by decide : ¬ (0 : Nat) ∈ ([] : List Nat))))) (blkOk_by (own := [("cell", 4)]) (N := N_Array___str__) (sc := defScope s_Array___str__) (by decide +kernel)) (fun _ _ _ _ _ => (pg_name (i := 4) sc_Array___str__.nd rfl (Or.inl rfl))) (fun _ _ _ _ _ => ts_nil) (fun _ _ _ _ _ => (e_joined (as := [(aC (.str " ")), (aU oFmtB (aV 4))]) (PJ.cons e_str (PJ.cons ((e_fmtB T.lim) (e_var (pv 4) (by decide : ¬ (4 : Nat) ∈ ([] : List Nat)))) PJ.nil)))) (by decide : ∀ i ∈ ([4] : List Nat), ¬ i ∈ ([] : List Nat)) (by decide : ∀ i ∈ ([4] : List Nat), i ∈ ([4] : List Nat))))))
 (b_one (s_ret (e_joined (as := [(aU oFmt (aV 1)), (aC (.str ":")), (aU oFmt (aV 2))]) (PJ.cons (e_fmt (e_var (pv 1) (by decide : ¬ (1 : Nat) ∈ ([] : List Nat)))) (PJ.cons e_str (PJ.cons (e_fmt (e_var (pv 2) (by decide : ¬ (2 : Nat) ∈ ([] : List Nat)))) PJ.nil))))))))), bodyN F_Array___str___len (fun ds P X h => by
      unfold F_Array___str__ at h
      split at h
      · exact h
      · exact h.elim) rfl (by decide : ∀ i ∈ ([] : List Nat), 1 ≤ i) h⟩)
-- Array.__repr__ : 0:self
def B_Array___repr__ : AS := (sRet (aJ [(aC (.str "Array(")), (aU oFmtR (aFld 0 0 (aV 0))), (aC (.str ", ")), (aU oFmtTB (aFld 0 1 (aV 0))), (aC (.str ")"))]))
def F_Array___repr__ : AF0 := fun ds P _ => match ds with
  | [a0] => B_Array___repr__  (endP P NX) [some a0]
  | _ => False
theorem F_Array___repr___len : ∀ ds P X, F_Array___repr__ ds P X → ds.length = 1 := fun ds P X h => by
  unfold F_Array___repr__ at h
  split at h
  · rfl
  · exact h.elim
theorem ok_Array___repr__ (T : Tx w K mg) : FnG P w K mg base CX0 1 T.Array___repr__.f T.Array___repr__.fd ["self"] (Lift (cfx T ([] : List Nat) 1) (af0 F_Array___repr__)) :=
  okG T.Array___repr__.F (k := 0) sc_Array___repr__ (Lift.len (cf := (cfx T ([] : List Nat) 1)) (F := af0 (F_Array___repr__)) (fun ds P X h => F_Array___repr___len ds _ X h)) (fun cdv A outer s H vs Q E hr gd h => have hg := And.intro gd (units66 hr)
    ⟨_, (show Eb _ (cfx T ([] : List Nat) 1) W0 _ B_Array___repr__ from (b_one (s_ret (e_joined (as := [(aC (.str "Array(")), (aU oFmtR (aFld 0 0 (aV 0))), (aC (.str ", ")), (aU oFmtTB (aFld 0 1 (aV 0))), (aC (.str ")"))]) (PJ.cons e_str (PJ.cons ((e_fmtR hg) (e_fld (c := 0) (k := 0) (C := T.C_Array) rfl T.Array.cl T.n_Array_shape (nmNd 0) rfl (e_var (pv 0) (by decide : ¬ (0 : Nat) ∈ ([] : List Nat))))) (PJ.cons e_str (PJ.cons ((e_fmtTB T.lim hg) (e_fld (c := 0) (k := 1) (C := T.C_Array) rfl T.Array.cl T.n_Array_cells (nmNd 0) rfl (e_var (pv 0) (by decide : ¬ (0 : Nat) ∈ ([] : List Nat))))) (PJ.cons e_str PJ.nil))))))))), bodyN F_Array___repr___len (fun ds P X h => by
      unfold F_Array___repr__ at h
      split at h
      · exact h
      · exact h.elim) rfl (by decide : ∀ i ∈ ([] : List Nat), 1 ≤ i) h⟩)
-- shape_in : 0:text 1:found 2:word
def B_shape_in : AS := (sSeq (sIf (aB (aO oEqA (aV 0) (aC (.str ""))))
 (sRet (aTup aNil))
 sNext)
 (sSeq (sSet 1 (aF fTuple (aCons (aLc (iL (aM1 mSplit (aV 0) (aC (.str " ")))) (Tg.a (.nm 2)) tY (aCall F_whole_in (aCons (aV 2) aNil)) [2]) aNil)))
 (sRet (aIf (aB (aCall F_is_shape (aCons (aV 1) aNil))) (aV 1) (aC .non)))))
def F_shape_in : AF0 := fun ds P _ => match ds with
  | [a0] => B_shape_in  (endP P NX) [some a0, none, none]
  | _ => False
theorem F_shape_in_len : ∀ ds P X, F_shape_in ds P X → ds.length = 1 := fun ds P X h => by
  unfold F_shape_in at h
  split at h
  · rfl
  · exact h.elim
theorem ok_shape_in (T : Tx w K mg) : FnOk P w K mg base CX0 4 T.shape_in.f T.shape_in.fd ["text"] (Lift (cfx T ([] : List Nat) 1) (af0 F_shape_in)) :=
  T.shape_in.F.ok (k := 3) sc_shape_in (Lift.len (cf := (cfx T ([] : List Nat) 1)) (F := af0 (F_shape_in)) (fun ds P X h => F_shape_in_len ds _ X h)) (fun cdv A outer s H vs Q E hr h => ⟨_, (show Eb _ (cfx T ([] : List Nat) 1) W0 _ B_shape_in from (b_cons (s_if (t_cmp (op_eqA hr.units) rl_eqA (e_var (pv 0) (by decide : ¬ (0 : Nat) ∈ ([] : List Nat))) e_str)
 (b_one (s_ret (e_tup a_nil)))
 b_nil)
 (b_cons (s_set (i := 1) sc_shape_in.nd rfl (Or.inl rfl) (by decide : ¬ (1 : Nat) ∈ ([] : List Nat)) (e_callTy call_tuple_of rl_tuple (by rfl) T.b_tuple (by decide +kernel) (a_cons (e_new (f_lc (own := [("word", 2)]) (t := (.nm 2)) rfl sc_shape_in.nd (i_list (e_split (e_var (pv 0) (by decide : ¬ (0 : Nat) ∈ ([] : List Nat))) e_str)) (blkOk_by (own := [("word", 2)]) (N := N_shape_in) (sc := defScope s_shape_in) (by decide +kernel)) (fun _ _ _ _ _ => (pg_name (i := 2) sc_shape_in.nd rfl (Or.inl rfl))) (fun _ _ _ _ _ => ts_nil) (fun _ _ _ _ _ => (e_call (cg := (cfx T ([] : List Nat) 1)) (runOk (ok_whole_in T) (hr.mono (by decide)) T.whole_in.b (fun σ => at00 σ)) F_whole_in_len (by decide : ∀ i ∈ ([] : List Nat), 1 ≤ i) (by rfl) T.whole_in.mg T.whole_in.F.kp (a_cons (e_var (pv 2) (by decide : ¬ (2 : Nat) ∈ ([] : List Nat))) a_nil))) (by decide : ∀ i ∈ ([2] : List Nat), ¬ i ∈ ([] : List Nat)) (by decide : ∀ i ∈ ([2] : List Nat), i ∈ ([2] : List Nat)))) a_nil)))
 (b_one (s_ret (e_if (t_val (e_call (cg := (cfx T ([] : List Nat) 1)) (runOk (ok_is_shape T) (hr.mono (by decide)) T.is_shape.b (fun σ => at00 σ)) F_is_shape_len (by decide : ∀ i ∈ ([] : List Nat), 1 ≤ i) (by rfl) T.is_shape.mg T.is_shape.F.kp (a_cons (e_var (pv 1) (by decide : ¬ (1 : Nat) ∈ ([] : List Nat))) a_nil))) (e_var (pv 1) (by decide : ¬ (1 : Nat) ∈ ([] : List Nat))) e_non)))))), bodyN F_shape_in_len (fun ds P X h => by
      unfold F_shape_in at h
      split at h
      · exact h
      · exact h.elim) rfl (by decide : ∀ i ∈ ([] : List Nat), 1 ≤ i) h⟩)
theorem ok_NoText___init__ (T : Tx w K mg) : FnOk P w K mg base CX0 1 T.NoText___init__.f T.NoText___init__.fd ["self", "text"] (Al.spXI T.C_NoText ["text"]) :=
  T.NoText___init__.F.ok (k := 0) sc_NoText___init__ Al.spXI_len (fun cdv A outer s H vs Q E hr h => ⟨_, (pss_cons (ps_expr (pe_bi T.x_NoText T.be_ValueError (by rfl) T.b_ValueError (pa_cons (pv 0) (pa_cons pe_str pa_nil)))) (pss_one (ps_xst T.x_NoText T.n_NoText_text (pv 0) (pv 1)))), Al.xi1 rfl h⟩)
-- read_array : 0:text 1:head 2:colon 3:tail 4:shape 5:blank 6:words 7:cells 8:word
def B_read_array : AS := (sSeq (sIf (aTNot (aB (aIs (isT "str") (aV 0))))
 (sRaise 1 1 (aCons (aV 0) aNil))
 sNext)
 (sSeq (sAsg (Tg.a (.tp [1, 2, 3])) (aM1 mPart (aV 0) (aC (.str ":"))))
 (sSeq (sSet 4 (aCall F_shape_in (aCons (aV 1) aNil)))
 (sSeq (sAsg (gStL 1 [5, 6]) (aM1 mSplit (aV 3) (aC (.str " "))))
 (sSeq (sSet 7 (aLc (iL (aV 6)) (Tg.a (.nm 8)) tY (aCall F_whole_in (aCons (aV 8) aNil)) [8]))
 (sSeq (sIf (aTOr (aB (aO oEqA (aV 2) (aC (.str "")))) (aTOr (aB (aO oIsN (aV 4) (aC .non))) (aTOr (aB (aO oNeA (aV 5) (aC (.str "")))) (aTOr (aB (aO (oInA false) (aC .non) (aV 7))) (aB (aO oNeA (aF fLenA (aCons (aV 7) aNil)) (aCall F_count (aCons (aV 4) aNil))))))))
 (sRaise 1 1 (aCons (aV 0) aNil))
 sNext)
 (sRet (aMake 0 F_Array___init__ (aCons (aV 4) (aCons (aV 7) aNil))))))))))
def F_read_array : AF0 := fun ds P X => match ds with
  | [a0] => B_read_array  (endP P X) [some a0, none, none, none, none, none, none, none, none]
  | _ => False
theorem F_read_array_len : ∀ ds P X, F_read_array ds P X → ds.length = 1 := fun ds P X h => by
  unfold F_read_array at h
  split at h
  · rfl
  · exact h.elim
theorem ok_read_array (T : Tx w K mg) : FnOk P w K mg base (L2.CX P w) 8 T.read_array.f T.read_array.fd ["text"] (Lift (cfx T ([] : List Nat) 1) (af0 F_read_array)) :=
  T.read_array.F.okX (k := 7) sc_read_array (Lift.len (cf := (cfx T ([] : List Nat) 1)) (F := af0 (F_read_array)) (fun ds P X h => F_read_array_len ds _ X h)) (fun cdv A outer s H vs Q E hr h => ⟨_, (show Eb _ (cfx T ([] : List Nat) 1) (fun cls d _ H => E cls d H) _ B_read_array from (b_cons (s_if (t_not (t_val (e_isi (by rfl) T.b_isinstance (e_var (pv 0) (by decide : ¬ (0 : Nat) ∈ ([] : List Nat))) (pe_bltn (v := V.ty "str") (by rfl) T.b_str (by decide +kernel) rfl) (.ty "str") is_str)))
 (b_one (s_raise (c := 1) rfl rfl (takes_of rfl rfl rfl rfl) (fun h => pmk_x T.x_NoText T.NoText___init__.m (ok_NoText___init__ T) (hr.mono (by decide)) T.NoText___init__.b pass0 (by rfl) T.m_NoText h) (a_cons (e_var (pv 0) (by decide : ¬ (0 : Nat) ∈ ([] : List Nat))) a_nil)))
 b_nil)
 (b_cons (s_asg (e_part (e_var (pv 0) (by decide : ¬ (0 : Nat) ∈ ([] : List Nat))) e_str) (g_tg (t := (.tp [1, 2, 3])) (pg_tup rfl (pgs_cons (pg_name (i := 1) sc_read_array.nd rfl (Or.inl rfl)) (pgs_cons (pg_name (i := 2) sc_read_array.nd rfl (Or.inl rfl)) (pgs_cons (pg_name (i := 3) sc_read_array.nd rfl (Or.inl rfl)) pgs_nil)))) (by decide : ∀ j ∈ ([1, 2, 3] : List Nat), ¬ j ∈ ([] : List Nat))) (fun h g => ps_asg h g))
 (b_cons (s_set (i := 4) sc_read_array.nd rfl (Or.inl rfl) (by decide : ¬ (4 : Nat) ∈ ([] : List Nat)) (e_call (cg := (cfx T ([] : List Nat) 1)) (runOk (ok_shape_in T) (hr.mono (by decide)) T.shape_in.b (fun σ => at00 σ)) F_shape_in_len (by decide : ∀ i ∈ ([] : List Nat), 1 ≤ i) (by rfl) T.shape_in.mg T.shape_in.F.kp (a_cons (e_var (pv 1) (by decide : ¬ (1 : Nat) ∈ ([] : List Nat))) a_nil)))
 (b_cons (s_asg (e_split (e_var (pv 3) (by decide : ¬ (3 : Nat) ∈ ([] : List Nat))) e_str) (g_starL (i := 1) (is := [5, 6]) (pg_starL rfl (pgs_cons (pg_name (i := 5) sc_read_array.nd rfl (Or.inl rfl)) (pgs_star (pg_name (i := 6) sc_read_array.nd rfl (Or.inl rfl)) pgs_nil))) (by decide : ∀ j ∈ ([5, 6] : List Nat), ¬ j ∈ ([] : List Nat))) (fun h g => ps_asg h g))
 (b_cons (s_setLc (j := 7) (own := [("word", 8)]) (t := (.nm 8)) rfl sc_read_array.nd rfl rfl (sw_true rfl rfl rfl (by decide +kernel)) (by decide : ¬ (7 : Nat) ∈ ([] : List Nat)) (i_list (e_var (pv 6) (by decide : ¬ (6 : Nat) ∈ ([] : List Nat)))) (blkOk_by (own := [("word", 8)]) (N := N_read_array) (sc := defScope s_read_array) (by decide +kernel)) (fun _ _ _ _ _ => (pg_name (i := 8) sc_read_array.nd rfl (Or.inl rfl))) (fun _ _ _ _ _ => ts_nil) (fun _ _ _ _ _ => (e_call (cg := (cfx T ([] : List Nat) 1)) (runOk (ok_whole_in T) (hr.mono (by decide)) T.whole_in.b (fun σ => at00 σ)) F_whole_in_len (by decide : ∀ i ∈ ([] : List Nat), 1 ≤ i) (by rfl) T.whole_in.mg T.whole_in.F.kp (a_cons (e_var (pv 8) (by decide : ¬ (8 : Nat) ∈ ([] : List Nat))) a_nil))) (by decide : ∀ i ∈ ([8] : List Nat), ¬ i ∈ ([] : List Nat)) (by decide : ∀ i ∈ ([8] : List Nat), i ∈ ([8] : List Nat)))
 (b_cons (s_if (t_w (w_or (t_cmp (op_eqA hr.units) rl_eqA (e_var (pv 2) (by decide : ¬ (2 : Nat) ∈ ([] : List Nat))) e_str) (w_or (t_cmp op_isN rl_isN (e_var (pv 4) (by decide : ¬ (4 : Nat) ∈ ([] : List Nat))) e_non) (w_or (t_cmp (op_neA hr.units) rl_neA (e_var (pv 5) (by decide : ¬ (5 : Nat) ∈ ([] : List Nat))) e_str) (w_or (t_cmp op_inA rl_inA e_non (e_var (pv 7) (by decide : ¬ (7 : Nat) ∈ ([] : List Nat)))) (w_or1 (t_cmp (op_neA hr.units) rl_neA (e_callB call_lenA rl_lenA (by rfl) T.b_len (by decide +kernel) (a_cons (e_var (pv 7) (by decide : ¬ (7 : Nat) ∈ ([] : List Nat))) a_nil)) (e_call (cg := (cfx T ([] : List Nat) 1)) (runOk (ok_count T) (hr.mono (by decide)) T.count.b (fun σ => at00 σ)) F_count_len (by decide : ∀ i ∈ ([] : List Nat), 1 ≤ i) (by rfl) T.count.mg T.count.F.kp (a_cons (e_var (pv 4) (by decide : ¬ (4 : Nat) ∈ ([] : List Nat))) a_nil)))))))))
 (b_one (s_raise (c := 1) rfl rfl (takes_of rfl rfl rfl rfl) (fun h => pmk_x T.x_NoText T.NoText___init__.m (ok_NoText___init__ T) (hr.mono (by decide)) T.NoText___init__.b pass0 (by rfl) T.m_NoText h) (a_cons (e_var (pv 0) (by decide : ¬ (0 : Nat) ∈ ([] : List Nat))) a_nil)))
 b_nil)
 (b_one (s_ret (e_new (f_make (cg := (cfx T ([0] : List Nat) 3)) (c := 0) (runMk T.Array.mkk (ok_Array___init__ T) (hr.mono (by decide)) T.Array___init__.b (fun σ => at00 σ)) F_Array___init___len (by decide : 0 ∈ ([0] : List Nat)) (by decide : ∀ i ∈ ([0] : List Nat), i = 0 ∨ 3 ≤ i) rfl (by rfl) T.Array.mg T.Array.mkk.kp (a_cons (e_var (pv 4) (by decide : ¬ (4 : Nat) ∈ ([] : List Nat))) (a_cons (e_var (pv 7) (by decide : ¬ (7 : Nat) ∈ ([] : List Nat))) a_nil))))))))))))), body0 F_read_array_len (fun ds P X h => by
      unfold F_read_array at h
      split at h
      · exact h
      · exact h.elim) rfl (by decide : ∀ i ∈ ([] : List Nat), 1 ≤ i) h⟩)
end
end Cr

namespace Cr
open PySem L2 Al
section
variable {P : Program} {w : World} {K : PySem.W.Frag} {mg : Str → Option Value} {base : Heap}
-- _law_feed : 0:_law_script
def B__law_feed : AS := (sRet (aLst (aCons (aF fList (aCons (aSl slA (aV 0) pN (pS (aC (.int 63)))) aNil)) (aCons (aC (.int 0)) (aCons (aC (.int 0)) aNil)))))
def F__law_feed : AF0 := fun ds P _ => match ds with
  | [a0] => B__law_feed  (endP P NX) [some a0]
  | _ => False
theorem F__law_feed_len : ∀ ds P X, F__law_feed ds P X → ds.length = 1 := fun ds P X h => by
  unfold F__law_feed at h
  split at h
  · rfl
  · exact h.elim
theorem ok__law_feed (T : Tx w K mg) : FnOk P w K mg base CX0 1 T._law_feed.f T._law_feed.fd ["_law_script"] (LiftF (cfx T ([] : List Nat) 1) ( F__law_feed)) :=
  T._law_feed.F.ok (k := 0) sc__law_feed (LiftF.len (cf := (cfx T ([] : List Nat) 1)) (F := F__law_feed) (fun ds P X h => F__law_feed_len ds _ X h)) (fun cdv A outer s H vs Q E hr h => ⟨_, (pss_one (ps_ret (f_lst (a_cons (e_new (f_list (by rfl) T.b_list (by decide +kernel) (e_slice sl_all rl_slA (e_var (pv 0) (by decide : ¬ (0 : Nat) ∈ ([] : List Nat))) o_none (o_some e_int)))) (a_cons e_int (a_cons e_int a_nil)))))), bodyF (W := W0) F__law_feed_len (fun ds P X h => by
      unfold F__law_feed at h
      split at h
      · exact h
      · exact h.elim) rfl h⟩)
-- _law_draw : 0:_law_feed_here 1:_law_many 2:_law_digit 3:_law_at 4:_law_cell 5:_law_number_here 6:_law_again
def B__law_draw : AS := (sSeq (sIf (aB (aO oGt (aIxO 0 (aC (.int 2))) (aC (.int 0))))
 (sSeq (sSet 2 (aO oMod (aIxO 0 (aC (.int 2))) (aV 1)))
 (sSeq (sIxO 0 (aO oDivA (aIxO 0 (aC (.int 2))) (aV 1)) (aC (.int 2)))
 (sRet (aV 2))))
 sNext)
 (sSeq (sSet 3 (aIxO 0 (aC (.int 1))))
 (sSeq (sIxO 0 (aO oAddA (aV 3) (aC (.int 1))) (aC (.int 1)))
 (sSeq (sSet 4 (aO oAddA (aO oMulA (aV 3) (aV 3)) (aC (.int 5))))
 (sSeq (sIf (aB (aO oNeA (aIxO 0 (aC (.int 0))) (aLst aNil)))
 (sSet 4 (aO oIx (aIxO 0 (aC (.int 0))) (aO oMod (aV 3) (aF fLenA (aCons (aIxO 0 (aC (.int 0))) aNil)))))
 sNext)
 (sSeq (sIf (aTAnd (aB (aO oLt (aV 3) (aF fLenA (aCons (aIxO 0 (aC (.int 0))) aNil)))) (aB (aO oGe (aF fAbs (aCons (aV 4) aNil)) (aO oPow (aC (.int 10)) (aC (.int 18))))))
 (sSeq (sIxO 0 (aO oDivA (aF fAbs (aCons (aV 4) aNil)) (aV 1)) (aC (.int 2)))
 (sRet (aO oMod (aF fAbs (aCons (aV 4) aNil)) (aV 1))))
 sNext)
 (sSeq (sSet 5 (aO oMod (aO oMulA (aO oAddA (aO oAddA (aO oMod (aV 4) (aC (.int 4294967311))) (aO oMulA (aC (.int 65539)) (aV 3))) (aC (.int 17))) (aC (.int 48271))) (aC (.int 4294967311))))
 (sSeq (sFor (iR1 (aCons (aC (.int 3)) aNil)) (Tg.a (.nm 6))
 (sSeq (sSet 5 (aO oAddA (aO oAddA (aO oAddA (aO oMulA (aV 5) (aV 5)) (aO oMulA (aC (.int 69621)) (aV 5))) (aV 3)) (aV 6)))
 (sSet 5 (aO oMod (aV 5) (aC (.int 4294967311))))))
 (sRet (aO oMod (aO oDivA (aV 5) (aC (.int 32))) (aV 1)))))))))))
def F__law_draw : AFo := fun a0 ds P _ => match ds with
  | [a1] => B__law_draw  (endO P NX) [some a0, some a1, none, none, none, none, none]
  | _ => False
theorem F__law_draw_len : ∀ o ds P X, F__law_draw o ds P X → ds.length + 1 = 2 := fun o ds P X h => by
  unfold F__law_draw at h
  split at h
  · rfl
  · exact h.elim
theorem ok__law_draw (T : Tx w K mg) : FnOk P w K mg base CX0 1 T._law_draw.f T._law_draw.fd ["_law_feed_here", "_law_many"] (Lift (cfx T ([0] : List Nat) 2) (afo F__law_draw)) :=
  T._law_draw.F.ok (k := 0) sc__law_draw (Lift.len (cf := (cfx T ([0] : List Nat) 2)) (F := afo (F__law_draw)) (fun ds P X h => by
      cases ds with
      | nil => exact h.elim
      | cons o ds => exact F__law_draw_len o ds _ X h)) (fun cdv A outer s H vs Q E hr h => ⟨_, (show Eb _ (cfx T ([0] : List Nat) 2) W0 _ B__law_draw from (b_cons (s_if (t_cmp op_gt rl_gt (e_ixO (pv 0) (by decide : (0 : Nat) ∈ ([0] : List Nat)) e_int) e_int)
 (b_cons (s_set (i := 2) sc__law_draw.nd rfl (Or.inl rfl) (by decide : ¬ (2 : Nat) ∈ ([0] : List Nat)) (e_op op_modN rl_mod (e_ixO (pv 0) (by decide : (0 : Nat) ∈ ([0] : List Nat)) e_int) (e_var (pv 1) (by decide : ¬ (1 : Nat) ∈ ([0] : List Nat)))))
 (b_cons (s_ixO (pv 0) (by decide : (0 : Nat) ∈ ([0] : List Nat)) (e_op op_divA rl_divA (e_ixO (pv 0) (by decide : (0 : Nat) ∈ ([0] : List Nat)) e_int) (e_var (pv 1) (by decide : ¬ (1 : Nat) ∈ ([0] : List Nat)))) e_int (fun h g => ps_asg h g) (fun h g => pg_sub h g set_list))
 (b_one (s_ret (e_var (pv 2) (by decide : ¬ (2 : Nat) ∈ ([0] : List Nat)))))))
 b_nil)
 (b_cons (s_set (i := 3) sc__law_draw.nd rfl (Or.inl rfl) (by decide : ¬ (3 : Nat) ∈ ([0] : List Nat)) (e_ixO (pv 0) (by decide : (0 : Nat) ∈ ([0] : List Nat)) e_int))
 (b_cons (s_ixO (pv 0) (by decide : (0 : Nat) ∈ ([0] : List Nat)) (e_op op_addA rl_addA (e_var (pv 3) (by decide : ¬ (3 : Nat) ∈ ([0] : List Nat))) e_int) e_int (fun h g => ps_asg h g) (fun h g => pg_sub h g set_list))
 (b_cons (s_set (i := 4) sc__law_draw.nd rfl (Or.inl rfl) (by decide : ¬ (4 : Nat) ∈ ([0] : List Nat)) (e_op op_addA rl_addA (e_op op_mulA rl_mulA (e_var (pv 3) (by decide : ¬ (3 : Nat) ∈ ([0] : List Nat))) (e_var (pv 3) (by decide : ¬ (3 : Nat) ∈ ([0] : List Nat)))) e_int))
 (b_cons (s_if (t_cmp (op_neA hr.units) rl_neA (e_ixO (pv 0) (by decide : (0 : Nat) ∈ ([0] : List Nat)) e_int) (e_lst a_nil))
 (b_one (s_set (i := 4) sc__law_draw.nd rfl (Or.inl rfl) (by decide : ¬ (4 : Nat) ∈ ([0] : List Nat)) (e_ix ix_seq rl_ix (e_ixO (pv 0) (by decide : (0 : Nat) ∈ ([0] : List Nat)) e_int) (e_op op_modN rl_mod (e_var (pv 3) (by decide : ¬ (3 : Nat) ∈ ([0] : List Nat))) (e_callB call_lenA rl_lenA (by rfl) T.b_len (by decide +kernel) (a_cons (e_ixO (pv 0) (by decide : (0 : Nat) ∈ ([0] : List Nat)) e_int) a_nil))))))
 b_nil)
 (b_cons (s_if (t_w (w_and (t_cmp op_lt rl_lt (e_var (pv 3) (by decide : ¬ (3 : Nat) ∈ ([0] : List Nat))) (e_callB call_lenA rl_lenA (by rfl) T.b_len (by decide +kernel) (a_cons (e_ixO (pv 0) (by decide : (0 : Nat) ∈ ([0] : List Nat)) e_int) a_nil))) (w_and1 (t_cmp op_ge rl_ge (e_callB call_abs rl_abs (by rfl) T.b_abs (by decide +kernel) (a_cons (e_var (pv 4) (by decide : ¬ (4 : Nat) ∈ ([0] : List Nat))) a_nil)) (e_op op_pow rl_pow e_int e_int)))))
 (b_cons (s_ixO (pv 0) (by decide : (0 : Nat) ∈ ([0] : List Nat)) (e_op op_divA rl_divA (e_callB call_abs rl_abs (by rfl) T.b_abs (by decide +kernel) (a_cons (e_var (pv 4) (by decide : ¬ (4 : Nat) ∈ ([0] : List Nat))) a_nil)) (e_var (pv 1) (by decide : ¬ (1 : Nat) ∈ ([0] : List Nat)))) e_int (fun h g => ps_asg h g) (fun h g => pg_sub h g set_list))
 (b_one (s_ret (e_op op_modN rl_mod (e_callB call_abs rl_abs (by rfl) T.b_abs (by decide +kernel) (a_cons (e_var (pv 4) (by decide : ¬ (4 : Nat) ∈ ([0] : List Nat))) a_nil)) (e_var (pv 1) (by decide : ¬ (1 : Nat) ∈ ([0] : List Nat)))))))
 b_nil)
 (b_cons (s_set (i := 5) sc__law_draw.nd rfl (Or.inl rfl) (by decide : ¬ (5 : Nat) ∈ ([0] : List Nat)) (e_op op_modN rl_mod (e_op op_mulA rl_mulA (e_op op_addA rl_addA (e_op op_addA rl_addA (e_op op_modN rl_mod (e_var (pv 4) (by decide : ¬ (4 : Nat) ∈ ([0] : List Nat))) e_int) (e_op op_mulA rl_mulA e_int (e_var (pv 3) (by decide : ¬ (3 : Nat) ∈ ([0] : List Nat))))) e_int) e_int) e_int))
 (b_cons (s_for PassesOwn.never rfl (i_range1 (by rfl) T.b_range (a_cons e_int a_nil)) (g_tg (t := (.nm 6)) (pg_name (i := 6) sc__law_draw.nd rfl (Or.inl rfl)) (by decide : ∀ j ∈ ([6] : List Nat), ¬ j ∈ ([0] : List Nat)))
 (b_cons (s_set (i := 5) sc__law_draw.nd rfl (Or.inl rfl) (by decide : ¬ (5 : Nat) ∈ ([0] : List Nat)) (e_op op_addA rl_addA (e_op op_addA rl_addA (e_op op_addA rl_addA (e_op op_mulA rl_mulA (e_var (pv 5) (by decide : ¬ (5 : Nat) ∈ ([0] : List Nat))) (e_var (pv 5) (by decide : ¬ (5 : Nat) ∈ ([0] : List Nat)))) (e_op op_mulA rl_mulA e_int (e_var (pv 5) (by decide : ¬ (5 : Nat) ∈ ([0] : List Nat))))) (e_var (pv 3) (by decide : ¬ (3 : Nat) ∈ ([0] : List Nat)))) (e_var (pv 6) (by decide : ¬ (6 : Nat) ∈ ([0] : List Nat)))))
 (b_one (s_set (i := 5) sc__law_draw.nd rfl (Or.inl rfl) (by decide : ¬ (5 : Nat) ∈ ([0] : List Nat)) (e_op op_modN rl_mod (e_var (pv 5) (by decide : ¬ (5 : Nat) ∈ ([0] : List Nat))) e_int)))))
 (b_one (s_ret (e_op op_modN rl_mod (e_op op_divA rl_divA (e_var (pv 5) (by decide : ¬ (5 : Nat) ∈ ([0] : List Nat))) e_int) (e_var (pv 1) (by decide : ¬ (1 : Nat) ∈ ([0] : List Nat))))))))))))))), bodyON F__law_draw_len (fun o ds P X h => by
      unfold F__law_draw at h
      split at h
      · exact h
      · exact h.elim) rfl (by decide : 0 ∈ ([0] : List Nat)) (by decide : ∀ i ∈ ([0] : List Nat), i = 0 ∨ 2 ≤ i) (by decide : 0 < 2) h⟩)
-- _law_of : 0:_law_feed_here 1:_law_some
def B__law_of : AS := (sRet (aO oIx (aV 1) (aCallO 0 F__law_draw (aCons (aF fLenA (aCons (aV 1) aNil)) aNil))))
def F__law_of : AFo := fun a0 ds P _ => match ds with
  | [a1] => B__law_of  (endO P NX) [some a0, some a1]
  | _ => False
theorem F__law_of_len : ∀ o ds P X, F__law_of o ds P X → ds.length + 1 = 2 := fun o ds P X h => by
  unfold F__law_of at h
  split at h
  · rfl
  · exact h.elim
theorem ok__law_of (T : Tx w K mg) : FnOk P w K mg base CX0 2 T._law_of.f T._law_of.fd ["_law_feed_here", "_law_some"] (Lift (cfx T ([0] : List Nat) 2) (afo F__law_of)) :=
  T._law_of.F.ok (k := 1) sc__law_of (Lift.len (cf := (cfx T ([0] : List Nat) 2)) (F := afo (F__law_of)) (fun ds P X h => by
      cases ds with
      | nil => exact h.elim
      | cons o ds => exact F__law_of_len o ds _ X h)) (fun cdv A outer s H vs Q E hr h => ⟨_, (show Eb _ (cfx T ([0] : List Nat) 2) W0 _ B__law_of from (b_one (s_ret (e_ix ix_seq rl_ix (e_var (pv 1) (by decide : ¬ (1 : Nat) ∈ ([0] : List Nat))) (e_callO (cg := (cfx T ([0] : List Nat) 2)) (i := 0) (runOk (ok__law_draw T) (hr.mono (by decide)) T._law_draw.b (fun σ => at00 σ)) F__law_draw_len (by decide : 0 ∈ ([0] : List Nat)) (by decide : ∀ i ∈ ([0] : List Nat), i = 0 ∨ 2 ≤ i) (by rfl) T._law_draw.mg T._law_draw.F.kp (pv 0) (by decide : (0 : Nat) ∈ ([0] : List Nat)) (a_cons (e_callB call_lenA rl_lenA (by rfl) T.b_len (by decide +kernel) (a_cons (e_var (pv 1) (by decide : ¬ (1 : Nat) ∈ ([0] : List Nat))) a_nil)) a_nil)))))), bodyON F__law_of_len (fun o ds P X h => by
      unfold F__law_of at h
      split at h
      · exact h
      · exact h.elim) rfl (by decide : 0 ∈ ([0] : List Nat)) (by decide : ∀ i ∈ ([0] : List Nat), i = 0 ∨ 2 ≤ i) (by decide : 0 < 2) h⟩)
-- _law_count : 0:_law_shape 1:_law_found 2:_law_size
def B__law_count : AS := (sSeq (sSet 1 (aC (.int 1)))
 (sSeq (sFor (iA (aV 0)) (Tg.a (.nm 2))
 (sSet 1 (aO oMulA (aV 1) (aV 2))))
 (sRet (aV 1))))
def F__law_count : AF0 := fun ds P _ => match ds with
  | [a0] => B__law_count  (endP P NX) [some a0, none, none]
  | _ => False
theorem F__law_count_len : ∀ ds P X, F__law_count ds P X → ds.length = 1 := fun ds P X h => by
  unfold F__law_count at h
  split at h
  · rfl
  · exact h.elim
theorem ok__law_count (T : Tx w K mg) : FnOk P w K mg base CX0 1 T._law_count.f T._law_count.fd ["_law_shape"] (Lift (cfx T ([] : List Nat) 1) (af0 F__law_count)) :=
  T._law_count.F.ok (k := 0) sc__law_count (Lift.len (cf := (cfx T ([] : List Nat) 1)) (F := af0 (F__law_count)) (fun ds P X h => F__law_count_len ds _ X h)) (fun cdv A outer s H vs Q E hr h => ⟨_, (show Eb _ (cfx T ([] : List Nat) 1) W0 _ B__law_count from (b_cons (s_set (i := 1) sc__law_count.nd rfl (Or.inl rfl) (by decide : ¬ (1 : Nat) ∈ ([] : List Nat)) e_int)
 (b_cons (s_for PassesOwn.never rfl (i_any (e_var (pv 0) (by decide : ¬ (0 : Nat) ∈ ([] : List Nat)))) (g_tg (t := (.nm 2)) (pg_name (i := 2) sc__law_count.nd rfl (Or.inl rfl)) (by decide : ∀ j ∈ ([2] : List Nat), ¬ j ∈ ([] : List Nat)))
 (b_one (s_set (i := 1) sc__law_count.nd rfl (Or.inl rfl) (by decide : ¬ (1 : Nat) ∈ ([] : List Nat)) (e_op op_mulA rl_mulA (e_var (pv 1) (by decide : ¬ (1 : Nat) ∈ ([] : List Nat))) (e_var (pv 2) (by decide : ¬ (2 : Nat) ∈ ([] : List Nat)))))))
 (b_one (s_ret (e_var (pv 1) (by decide : ¬ (1 : Nat) ∈ ([] : List Nat)))))))), bodyN F__law_count_len (fun ds P X h => by
      unfold F__law_count at h
      split at h
      · exact h
      · exact h.elim) rfl (by decide : ∀ i ∈ ([] : List Nat), 1 ≤ i) h⟩)
-- _law_number : 0:_law_feed_here 1:_law_way
def B__law_number : AS := (sSeq (sSet 1 (aCallO 0 F__law_draw (aCons (aC (.int 9)) aNil)))
 (sSeq (sIf (aB (aO oLt (aV 1) (aC (.int 6))))
 (sRet (aO oSub (aCallO 0 F__law_draw (aCons (aC (.int 7)) aNil)) (aC (.int 3))))
 sNext)
 (sSeq (sIf (aB (aO oLt (aV 1) (aC (.int 8))))
 (sRet (aCallO 0 F__law_of (aCons (aLst (aCons (aC (.int 9)) (aCons (aC (.int 10)) (aCons (aC (.int 11)) (aCons (aC (.int 99)) (aCons (aC (.int 100)) (aCons (aU oNeg (aC (.int 9))) (aCons (aU oNeg (aC (.int 10))) aNil)))))))) aNil)))
 sNext)
 (sRet (aO oMulA (aO oAddA (aO oMulA (aCallO 0 F__law_draw (aCons (aO oPow (aC (.int 10)) (aC (.int 15))) aNil)) (aO oPow (aC (.int 10)) (aC (.int 15)))) (aCallO 0 F__law_draw (aCons (aO oPow (aC (.int 10)) (aC (.int 15))) aNil))) (aO oIx (aLst (aCons (aC (.int 1)) (aCons (aU oNeg (aC (.int 1))) aNil))) (aCallO 0 F__law_draw (aCons (aC (.int 2)) aNil))))))))
def F__law_number : AFo := fun a0 ds P _ => match ds with
  | [] => B__law_number  (endO P NX) [some a0, none]
  | _ => False
theorem F__law_number_len : ∀ o ds P X, F__law_number o ds P X → ds.length + 1 = 1 := fun o ds P X h => by
  unfold F__law_number at h
  split at h
  · rfl
  · exact h.elim
theorem ok__law_number (T : Tx w K mg) : FnOk P w K mg base CX0 3 T._law_number.f T._law_number.fd ["_law_feed_here"] (Lift (cfx T ([0] : List Nat) 1) (afo F__law_number)) :=
  T._law_number.F.ok (k := 2) sc__law_number (Lift.len (cf := (cfx T ([0] : List Nat) 1)) (F := afo (F__law_number)) (fun ds P X h => by
      cases ds with
      | nil => exact h.elim
      | cons o ds => exact F__law_number_len o ds _ X h)) (fun cdv A outer s H vs Q E hr h => ⟨_, (show Eb _ (cfx T ([0] : List Nat) 1) W0 _ B__law_number from (b_cons (s_set (i := 1) sc__law_number.nd rfl (Or.inl rfl) (by decide : ¬ (1 : Nat) ∈ ([0] : List Nat)) (e_callO (cg := (cfx T ([0] : List Nat) 2)) (i := 0) (runOk (ok__law_draw T) (hr.mono (by decide)) T._law_draw.b (fun σ => at00 σ)) F__law_draw_len (by decide : 0 ∈ ([0] : List Nat)) (by decide : ∀ i ∈ ([0] : List Nat), i = 0 ∨ 2 ≤ i) (by rfl) T._law_draw.mg T._law_draw.F.kp (pv 0) (by decide : (0 : Nat) ∈ ([0] : List Nat)) (a_cons e_int a_nil)))
 (b_cons (s_if (t_cmp op_lt rl_lt (e_var (pv 1) (by decide : ¬ (1 : Nat) ∈ ([0] : List Nat))) e_int)
 (b_one (s_ret (e_op op_sub rl_sub (e_callO (cg := (cfx T ([0] : List Nat) 2)) (i := 0) (runOk (ok__law_draw T) (hr.mono (by decide)) T._law_draw.b (fun σ => at00 σ)) F__law_draw_len (by decide : 0 ∈ ([0] : List Nat)) (by decide : ∀ i ∈ ([0] : List Nat), i = 0 ∨ 2 ≤ i) (by rfl) T._law_draw.mg T._law_draw.F.kp (pv 0) (by decide : (0 : Nat) ∈ ([0] : List Nat)) (a_cons e_int a_nil)) e_int)))
 b_nil)
 (b_cons (s_if (t_cmp op_lt rl_lt (e_var (pv 1) (by decide : ¬ (1 : Nat) ∈ ([0] : List Nat))) e_int)
 (b_one (s_ret (e_callO (cg := (cfx T ([0] : List Nat) 2)) (i := 0) (runOk (ok__law_of T) (hr.mono (by decide)) T._law_of.b (fun σ => at00 σ)) F__law_of_len (by decide : 0 ∈ ([0] : List Nat)) (by decide : ∀ i ∈ ([0] : List Nat), i = 0 ∨ 2 ≤ i) (by rfl) T._law_of.mg T._law_of.F.kp (pv 0) (by decide : (0 : Nat) ∈ ([0] : List Nat)) (a_cons (e_lst (a_cons e_int (a_cons e_int (a_cons e_int (a_cons e_int (a_cons e_int (a_cons (e_un un_neg rl_neg e_int) (a_cons (e_un un_neg rl_neg e_int) a_nil)))))))) a_nil))))
 b_nil)
 (b_one (s_ret (e_op op_mulA rl_mulA (e_op op_addA rl_addA (e_op op_mulA rl_mulA (e_callO (cg := (cfx T ([0] : List Nat) 2)) (i := 0) (runOk (ok__law_draw T) (hr.mono (by decide)) T._law_draw.b (fun σ => at00 σ)) F__law_draw_len (by decide : 0 ∈ ([0] : List Nat)) (by decide : ∀ i ∈ ([0] : List Nat), i = 0 ∨ 2 ≤ i) (by rfl) T._law_draw.mg T._law_draw.F.kp (pv 0) (by decide : (0 : Nat) ∈ ([0] : List Nat)) (a_cons (e_op op_pow rl_pow e_int e_int) a_nil)) (e_op op_pow rl_pow e_int e_int)) (e_callO (cg := (cfx T ([0] : List Nat) 2)) (i := 0) (runOk (ok__law_draw T) (hr.mono (by decide)) T._law_draw.b (fun σ => at00 σ)) F__law_draw_len (by decide : 0 ∈ ([0] : List Nat)) (by decide : ∀ i ∈ ([0] : List Nat), i = 0 ∨ 2 ≤ i) (by rfl) T._law_draw.mg T._law_draw.F.kp (pv 0) (by decide : (0 : Nat) ∈ ([0] : List Nat)) (a_cons (e_op op_pow rl_pow e_int e_int) a_nil))) (e_ix ix_seq rl_ix (e_lst (a_cons e_int (a_cons (e_un un_neg rl_neg e_int) a_nil))) (e_callO (cg := (cfx T ([0] : List Nat) 2)) (i := 0) (runOk (ok__law_draw T) (hr.mono (by decide)) T._law_draw.b (fun σ => at00 σ)) F__law_draw_len (by decide : 0 ∈ ([0] : List Nat)) (by decide : ∀ i ∈ ([0] : List Nat), i = 0 ∨ 2 ≤ i) (by rfl) T._law_draw.mg T._law_draw.F.kp (pv 0) (by decide : (0 : Nat) ∈ ([0] : List Nat)) (a_cons e_int a_nil)))))))))), bodyON F__law_number_len (fun o ds P X h => by
      unfold F__law_number at h
      split at h
      · exact h
      · exact h.elim) rfl (by decide : 0 ∈ ([0] : List Nat)) (by decide : ∀ i ∈ ([0] : List Nat), i = 0 ∨ 1 ≤ i) (by decide : 0 < 1) h⟩)
-- _law_base : 0:_law_feed_here 1:_law_axes 2:_law_wide 3:_law_k
def B__law_base : AS := (sRet (aF fTuple (aCons (aLc (iR1 (aCons (aCallO 0 F__law_draw (aCons (aO oAddA (aV 1) (aC (.int 1))) aNil)) aNil)) (Tg.a (.nm 3)) tY (aCallO 0 F__law_of (aCons (aLst (aCons (aC (.int 1)) (aCons (aC (.int 2)) (aCons (aC (.int 2)) (aCons (aC (.int 3)) (aCons (aCallO 0 F__law_draw (aCons (aV 2) aNil)) aNil)))))) aNil)) [3]) aNil)))
def F__law_base : AFo := fun a0 ds P _ => match ds with
  | [a1, a2] => B__law_base  (endO P NX) [some a0, some a1, some a2, none]
  | _ => False
theorem F__law_base_len : ∀ o ds P X, F__law_base o ds P X → ds.length + 1 = 3 := fun o ds P X h => by
  unfold F__law_base at h
  split at h
  · rfl
  · exact h.elim
theorem ok__law_base (T : Tx w K mg) : FnOk P w K mg base CX0 3 T._law_base.f T._law_base.fd ["_law_feed_here", "_law_axes", "_law_wide"] (Lift (cfx T ([0] : List Nat) 3) (afo F__law_base)) :=
  T._law_base.F.ok (k := 2) sc__law_base (Lift.len (cf := (cfx T ([0] : List Nat) 3)) (F := afo (F__law_base)) (fun ds P X h => by
      cases ds with
      | nil => exact h.elim
      | cons o ds => exact F__law_base_len o ds _ X h)) (fun cdv A outer s H vs Q E hr h => ⟨_, (show Eb _ (cfx T ([0] : List Nat) 3) W0 _ B__law_base from (b_one (s_ret (e_callTy call_tuple_of rl_tuple (by rfl) T.b_tuple (by decide +kernel) (a_cons (e_new (f_lc (own := [("_law_k", 3)]) (t := (.nm 3)) rfl sc__law_base.nd (i_range1 (by rfl) T.b_range (a_cons (e_callO (cg := (cfx T ([0] : List Nat) 2)) (i := 0) (runOk (ok__law_draw T) (hr.mono (by decide)) T._law_draw.b (fun σ => at00 σ)) F__law_draw_len (by decide : 0 ∈ ([0] : List Nat)) (by decide : ∀ i ∈ ([0] : List Nat), i = 0 ∨ 2 ≤ i) (by rfl) T._law_draw.mg T._law_draw.F.kp (pv 0) (by decide : (0 : Nat) ∈ ([0] : List Nat)) (a_cons (e_op op_addA rl_addA (e_var (pv 1) (by decide : ¬ (1 : Nat) ∈ ([0] : List Nat))) e_int) a_nil)) a_nil)) (blkOk_by (own := [("_law_k", 3)]) (N := N__law_base) (sc := defScope s__law_base) (by decide +kernel)) (fun _ _ _ _ _ => (pg_name (i := 3) sc__law_base.nd rfl (Or.inl rfl))) (fun _ _ _ _ _ => ts_nil) (fun _ _ _ _ _ => (e_callO (cg := (cfx T ([0] : List Nat) 2)) (i := 0) (runOk (ok__law_of T) (hr.mono (by decide)) T._law_of.b (fun σ => at00 σ)) F__law_of_len (by decide : 0 ∈ ([0] : List Nat)) (by decide : ∀ i ∈ ([0] : List Nat), i = 0 ∨ 2 ≤ i) (by rfl) T._law_of.mg T._law_of.F.kp (pv 0) (by decide : (0 : Nat) ∈ ([0] : List Nat)) (a_cons (e_lst (a_cons e_int (a_cons e_int (a_cons e_int (a_cons e_int (a_cons (e_callO (cg := (cfx T ([0] : List Nat) 2)) (i := 0) (runOk (ok__law_draw T) (hr.mono (by decide)) T._law_draw.b (fun σ => at00 σ)) F__law_draw_len (by decide : 0 ∈ ([0] : List Nat)) (by decide : ∀ i ∈ ([0] : List Nat), i = 0 ∨ 2 ≤ i) (by rfl) T._law_draw.mg T._law_draw.F.kp (pv 0) (by decide : (0 : Nat) ∈ ([0] : List Nat)) (a_cons (e_var (pv 2) (by decide : ¬ (2 : Nat) ∈ ([0] : List Nat))) a_nil)) a_nil)))))) a_nil))) (by decide : ∀ i ∈ ([3] : List Nat), ¬ i ∈ ([0] : List Nat)) (by decide : ∀ i ∈ ([3] : List Nat), i ∈ ([3] : List Nat)))) a_nil))))), bodyON F__law_base_len (fun o ds P X h => by
      unfold F__law_base at h
      split at h
      · exact h
      · exact h.elim) rfl (by decide : 0 ∈ ([0] : List Nat)) (by decide : ∀ i ∈ ([0] : List Nat), i = 0 ∨ 3 ≤ i) (by decide : 0 < 3) h⟩)
-- _law_array_text : 0:_law_board 1:_law_shape 2:_law_cells 3:_law_size 4:_law_cell
def B__law_array_text : AS := (sSeq (sAsg (Tg.a (.tp [1, 2])) (aV 0))
 (sRet (aO oAddA (aO oAddA (aM1 mJoin (aC (.str " ")) (aLc (iT (aV 1)) (Tg.a (.nm 3)) tY (aF fStrA (aCons (aV 3) aNil)) [3])) (aC (.str ":"))) (aM1 mJoin (aC (.str "")) (aLc (iL (aV 2)) (Tg.a (.nm 4)) tY (aO oAddA (aC (.str " ")) (aF fStrA (aCons (aV 4) aNil))) [4])))))
def F__law_array_text : AF0 := fun ds P _ => match ds with
  | [a0] => B__law_array_text  (endP P NX) [some a0, none, none, none, none]
  | _ => False
theorem F__law_array_text_len : ∀ ds P X, F__law_array_text ds P X → ds.length = 1 := fun ds P X h => by
  unfold F__law_array_text at h
  split at h
  · rfl
  · exact h.elim
theorem ok__law_array_text (T : Tx w K mg) : FnOk P w K mg base CX0 1 T._law_array_text.f T._law_array_text.fd ["_law_board"] (Lift (cfx T ([] : List Nat) 1) (af0 F__law_array_text)) :=
  T._law_array_text.F.ok (k := 0) sc__law_array_text (Lift.len (cf := (cfx T ([] : List Nat) 1)) (F := af0 (F__law_array_text)) (fun ds P X h => F__law_array_text_len ds _ X h)) (fun cdv A outer s H vs Q E hr h => ⟨_, (show Eb _ (cfx T ([] : List Nat) 1) W0 _ B__law_array_text from (b_cons (s_asg (e_var (pv 0) (by decide : ¬ (0 : Nat) ∈ ([] : List Nat))) (g_tg (t := (.tp [1, 2])) (pg_tup rfl (pgs_cons (pg_name (i := 1) sc__law_array_text.nd rfl (Or.inl rfl)) (pgs_cons (pg_name (i := 2) sc__law_array_text.nd rfl (Or.inl rfl)) pgs_nil))) (by decide : ∀ j ∈ ([1, 2] : List Nat), ¬ j ∈ ([] : List Nat))) (fun h g => ps_asg h g))
 (b_one (s_ret (e_op op_addA rl_addA (e_op op_addA rl_addA (e_join e_str (e_new (f_lc (own := [("_law_size", 3)]) (t := (.nm 3)) rfl sc__law_array_text.nd (i_tup (e_var (pv 1) (by decide : ¬ (1 : Nat) ∈ ([] : List Nat)))) (blkOk_by (own := [("_law_size", 3)]) (N := N__law_array_text) (sc := defScope s__law_array_text) (by decide +kernel)) (fun _ _ _ _ _ => (pg_name (i := 3) sc__law_array_text.nd rfl (Or.inl rfl))) (fun _ _ _ _ _ => ts_nil) (fun _ _ _ _ _ => (e_callTy call_strA rl_strA (by rfl) T.b_str (by decide +kernel) (a_cons (e_var (pv 3) (by decide : ¬ (3 : Nat) ∈ ([] : List Nat))) a_nil))) (by decide : ∀ i ∈ ([3] : List Nat), ¬ i ∈ ([] : List Nat)) (by decide : ∀ i ∈ ([3] : List Nat), i ∈ ([3] : List Nat))))) e_str) (e_join e_str (e_new (f_lc (own := [("_law_cell", 4)]) (t := (.nm 4)) rfl sc__law_array_text.nd (i_list (e_var (pv 2) (by decide : ¬ (2 : Nat) ∈ ([] : List Nat)))) (blkOk_by (own := [("_law_cell", 4)]) (N := N__law_array_text) (sc := defScope s__law_array_text) (by decide +kernel)) (fun _ _ _ _ _ => (pg_name (i := 4) sc__law_array_text.nd rfl (Or.inl rfl))) (fun _ _ _ _ _ => ts_nil) (fun _ _ _ _ _ => (e_op op_addA rl_addA e_str (e_callTy call_strA rl_strA (by rfl) T.b_str (by decide +kernel) (a_cons (e_var (pv 4) (by decide : ¬ (4 : Nat) ∈ ([] : List Nat))) a_nil)))) (by decide : ∀ i ∈ ([4] : List Nat), ¬ i ∈ ([] : List Nat)) (by decide : ∀ i ∈ ([4] : List Nat), i ∈ ([4] : List Nat)))))))))), bodyN F__law_array_text_len (fun ds P X h => by
      unfold F__law_array_text at h
      split at h
      · exact h
      · exact h.elim) rfl (by decide : ∀ i ∈ ([] : List Nat), 1 ≤ i) h⟩)
-- _law_is_board : 0:_law_array 1:_law_board
def B__law_is_board : AS := (sSeq (sIf (aTOr (aTNot (aB (aIs (isC 0) (aV 0)))) (aB (aO oNeA (aF fRepr (aCons (aFld 0 0 (aV 0)) aNil)) (aF fRepr (aCons (aO oIx (aV 1) (aC (.int 0))) aNil)))))
 (sRet (aC (.bl false)))
 sNext)
 (sRet (aO oEqA (aF fRepr (aCons (aF fList (aCons (aFld 0 1 (aV 0)) aNil)) aNil)) (aF fRepr (aCons (aF fList (aCons (aO oIx (aV 1) (aC (.int 1))) aNil)) aNil)))))
def F__law_is_board : AF0 := fun ds P _ => match ds with
  | [a0, a1] => B__law_is_board  (endP P NX) [some a0, some a1]
  | _ => False
theorem F__law_is_board_len : ∀ ds P X, F__law_is_board ds P X → ds.length = 2 := fun ds P X h => by
  unfold F__law_is_board at h
  split at h
  · rfl
  · exact h.elim
theorem ok__law_is_board (T : Tx w K mg) : FnG P w K mg base CX0 1 T._law_is_board.f T._law_is_board.fd ["_law_array", "_law_board"] (Lift (cfx T ([] : List Nat) 2) (af0 F__law_is_board)) :=
  okG T._law_is_board.F (k := 0) sc__law_is_board (Lift.len (cf := (cfx T ([] : List Nat) 2)) (F := af0 (F__law_is_board)) (fun ds P X h => F__law_is_board_len ds _ X h)) (fun cdv A outer s H vs Q E hr gd h => have hg := And.intro gd (units66 hr)
    ⟨_, (show Eb _ (cfx T ([] : List Nat) 2) W0 _ B__law_is_board from (b_cons (s_if (t_w (w_or (t_not (t_val (e_isi (by rfl) T.b_isinstance (e_var (pv 0) (by decide : ¬ (0 : Nat) ∈ ([] : List Nat))) (pe_glob (v := V.ref T.C_Array) (by rfl) T.Array.mg rfl) (.own T.C_Array) (isC_ok (c := 0) rfl T.ot_Array)))) (w_or1 (t_cmp (op_neA hr.units) rl_neA (e_callB (call_reprW hg) rl_repr (by rfl) T.b_repr (by decide +kernel) (a_cons (e_fld (c := 0) (k := 0) (C := T.C_Array) rfl T.Array.cl T.n_Array_shape (nmNd 0) rfl (e_var (pv 0) (by decide : ¬ (0 : Nat) ∈ ([] : List Nat)))) a_nil)) (e_callB (call_reprW hg) rl_repr (by rfl) T.b_repr (by decide +kernel) (a_cons (e_ix ix_seq rl_ix (e_var (pv 1) (by decide : ¬ (1 : Nat) ∈ ([] : List Nat))) e_int) a_nil))))))
 (b_one (s_ret e_bl))
 b_nil)
 (b_one (s_ret (e_cmp (op_eqA hr.units) rl_eqA (e_callB (call_reprW hg) rl_repr (by rfl) T.b_repr (by decide +kernel) (a_cons (e_new (f_list (by rfl) T.b_list (by decide +kernel) (e_fld (c := 0) (k := 1) (C := T.C_Array) rfl T.Array.cl T.n_Array_cells (nmNd 0) rfl (e_var (pv 0) (by decide : ¬ (0 : Nat) ∈ ([] : List Nat)))))) a_nil)) (e_callB (call_reprW hg) rl_repr (by rfl) T.b_repr (by decide +kernel) (a_cons (e_new (f_list (by rfl) T.b_list (by decide +kernel) (e_ix ix_seq rl_ix (e_var (pv 1) (by decide : ¬ (1 : Nat) ∈ ([] : List Nat))) e_int))) a_nil))))))), bodyN F__law_is_board_len (fun ds P X h => by
      unfold F__law_is_board at h
      split at h
      · exact h
      · exact h.elim) rfl (by decide : ∀ i ∈ ([] : List Nat), 2 ≤ i) h⟩)
-- _law_great : 0:_law_feed_here 1:_law_far
def B__law_great : AS := (sSeq (sIf (aB (aO oGt (aCallO 0 F__law_draw (aCons (aC (.int 9)) aNil)) (aC (.int 0))))
 (sRet (aCallO 0 F__law_number aNil))
 sNext)
 (sSeq (sSet 1 (aO oAddA (aF fIntA (aCons (aO oAddA (aC (.str "1")) (aO oRepZ (aC (.str "0")) (aCallO 0 F__law_draw (aCons (aC (.int 400)) aNil)))) aNil)) (aCallO 0 F__law_draw (aCons (aO oPow (aC (.int 10)) (aC (.int 6))) aNil))))
 (sRet (aO oMulA (aV 1) (aO oIx (aLst (aCons (aC (.int 1)) (aCons (aU oNeg (aC (.int 1))) aNil))) (aCallO 0 F__law_draw (aCons (aC (.int 2)) aNil)))))))
def F__law_great : AFo := fun a0 ds P _ => match ds with
  | [] => B__law_great  (endO P NX) [some a0, none]
  | _ => False
theorem F__law_great_len : ∀ o ds P X, F__law_great o ds P X → ds.length + 1 = 1 := fun o ds P X h => by
  unfold F__law_great at h
  split at h
  · rfl
  · exact h.elim
theorem ok__law_great (T : Tx w K mg) : FnOk P w K mg base CX0 4 T._law_great.f T._law_great.fd ["_law_feed_here"] (Lift (cfx T ([0] : List Nat) 1) (afo F__law_great)) :=
  T._law_great.F.ok (k := 3) sc__law_great (Lift.len (cf := (cfx T ([0] : List Nat) 1)) (F := afo (F__law_great)) (fun ds P X h => by
      cases ds with
      | nil => exact h.elim
      | cons o ds => exact F__law_great_len o ds _ X h)) (fun cdv A outer s H vs Q E hr h => ⟨_, (show Eb _ (cfx T ([0] : List Nat) 1) W0 _ B__law_great from (b_cons (s_if (t_cmp op_gt rl_gt (e_callO (cg := (cfx T ([0] : List Nat) 2)) (i := 0) (runOk (ok__law_draw T) (hr.mono (by decide)) T._law_draw.b (fun σ => at00 σ)) F__law_draw_len (by decide : 0 ∈ ([0] : List Nat)) (by decide : ∀ i ∈ ([0] : List Nat), i = 0 ∨ 2 ≤ i) (by rfl) T._law_draw.mg T._law_draw.F.kp (pv 0) (by decide : (0 : Nat) ∈ ([0] : List Nat)) (a_cons e_int a_nil)) e_int)
 (b_one (s_ret (e_callO (cg := (cfx T ([0] : List Nat) 1)) (i := 0) (runOk (ok__law_number T) (hr.mono (by decide)) T._law_number.b (fun σ => at00 σ)) F__law_number_len (by decide : 0 ∈ ([0] : List Nat)) (by decide : ∀ i ∈ ([0] : List Nat), i = 0 ∨ 1 ≤ i) (by rfl) T._law_number.mg T._law_number.F.kp (pv 0) (by decide : (0 : Nat) ∈ ([0] : List Nat)) a_nil)))
 b_nil)
 (b_cons (s_set (i := 1) sc__law_great.nd rfl (Or.inl rfl) (by decide : ¬ (1 : Nat) ∈ ([0] : List Nat)) (e_op op_addA rl_addA (e_callTy call_intA rl_intA (by rfl) T.b_int (by decide +kernel) (a_cons (e_op op_addA rl_addA e_str (e_op op_repZ rl_repZ e_str (e_callO (cg := (cfx T ([0] : List Nat) 2)) (i := 0) (runOk (ok__law_draw T) (hr.mono (by decide)) T._law_draw.b (fun σ => at00 σ)) F__law_draw_len (by decide : 0 ∈ ([0] : List Nat)) (by decide : ∀ i ∈ ([0] : List Nat), i = 0 ∨ 2 ≤ i) (by rfl) T._law_draw.mg T._law_draw.F.kp (pv 0) (by decide : (0 : Nat) ∈ ([0] : List Nat)) (a_cons e_int a_nil)))) a_nil)) (e_callO (cg := (cfx T ([0] : List Nat) 2)) (i := 0) (runOk (ok__law_draw T) (hr.mono (by decide)) T._law_draw.b (fun σ => at00 σ)) F__law_draw_len (by decide : 0 ∈ ([0] : List Nat)) (by decide : ∀ i ∈ ([0] : List Nat), i = 0 ∨ 2 ≤ i) (by rfl) T._law_draw.mg T._law_draw.F.kp (pv 0) (by decide : (0 : Nat) ∈ ([0] : List Nat)) (a_cons (e_op op_pow rl_pow e_int e_int) a_nil))))
 (b_one (s_ret (e_op op_mulA rl_mulA (e_var (pv 1) (by decide : ¬ (1 : Nat) ∈ ([0] : List Nat))) (e_ix ix_seq rl_ix (e_lst (a_cons e_int (a_cons (e_un un_neg rl_neg e_int) a_nil))) (e_callO (cg := (cfx T ([0] : List Nat) 2)) (i := 0) (runOk (ok__law_draw T) (hr.mono (by decide)) T._law_draw.b (fun σ => at00 σ)) F__law_draw_len (by decide : 0 ∈ ([0] : List Nat)) (by decide : ∀ i ∈ ([0] : List Nat), i = 0 ∨ 2 ≤ i) (by rfl) T._law_draw.mg T._law_draw.F.kp (pv 0) (by decide : (0 : Nat) ∈ ([0] : List Nat)) (a_cons e_int a_nil))))))))), bodyON F__law_great_len (fun o ds P X h => by
      unfold F__law_great at h
      split at h
      · exact h
      · exact h.elim) rfl (by decide : 0 ∈ ([0] : List Nat)) (by decide : ∀ i ∈ ([0] : List Nat), i = 0 ∨ 1 ≤ i) (by decide : 0 < 1) h⟩)
-- _law_figures : 0:_law_word 1:_law_figures_here 2:_law_sign
def B__law_figures : AS := (sSeq (sSet 1 (aIf (aB (aO oEqA (aSl slA (aV 0) pN (pS (aC (.int 1)))) (aC (.str "-")))) (aSl slA (aV 0) (pS (aC (.int 1))) pN) (aV 0)))
 (sSeq (sIf (aTOr (aTNot (aB (aCh oLe oLe (aC (.int 1)) (aF fLenA (aCons (aV 1) aNil)) (aC (.int 4000))))) (aB (aO oNeA (aLc (iS (aV 1)) (Tg.a (.nm 2)) (aB (aO (oInA true) (aV 2) (aC (.str "0123456789")))) (aV 2) [2]) (aLst aNil))))
 (sRet (aC .non))
 sNext)
 (sRet (aIf (aTAnd (aB (aO oEqA (aO oIx (aV 1) (aC (.int 0))) (aC (.str "0")))) (aB (aO oNeA (aV 0) (aC (.str "0"))))) (aC .non) (aF fIntB (aCons (aV 0) aNil))))))
def F__law_figures : AF0 := fun ds P _ => match ds with
  | [a0] => B__law_figures  (endP P NX) [some a0, none, none]
  | _ => False
theorem F__law_figures_len : ∀ ds P X, F__law_figures ds P X → ds.length = 1 := fun ds P X h => by
  unfold F__law_figures at h
  split at h
  · rfl
  · exact h.elim
theorem ok__law_figures (T : Tx w K mg) : FnOk P w K mg base CX0 1 T._law_figures.f T._law_figures.fd ["_law_word"] (Lift (cfx T ([] : List Nat) 1) (af0 F__law_figures)) :=
  T._law_figures.F.ok (k := 0) sc__law_figures (Lift.len (cf := (cfx T ([] : List Nat) 1)) (F := af0 (F__law_figures)) (fun ds P X h => F__law_figures_len ds _ X h)) (fun cdv A outer s H vs Q E hr h => ⟨_, (show Eb _ (cfx T ([] : List Nat) 1) W0 _ B__law_figures from (b_cons (s_set (i := 1) sc__law_figures.nd rfl (Or.inl rfl) (by decide : ¬ (1 : Nat) ∈ ([] : List Nat)) (e_if (t_cmp (op_eqA hr.units) rl_eqA (e_slice sl_all rl_slA (e_var (pv 0) (by decide : ¬ (0 : Nat) ∈ ([] : List Nat))) o_none (o_some e_int)) e_str) (e_slice sl_all rl_slA (e_var (pv 0) (by decide : ¬ (0 : Nat) ∈ ([] : List Nat))) (o_some e_int) o_none) (e_var (pv 0) (by decide : ¬ (0 : Nat) ∈ ([] : List Nat)))))
 (b_cons (s_if (t_w (w_or (t_not (t_chain op_le op_le rl_le rl_le e_int (e_callB call_lenA rl_lenA (by rfl) T.b_len (by decide +kernel) (a_cons (e_var (pv 1) (by decide : ¬ (1 : Nat) ∈ ([] : List Nat))) a_nil)) e_int)) (w_or1 (t_cmp (op_neA hr.units) rl_neA (e_new (f_lc (own := [("_law_sign", 2)]) (t := (.nm 2)) rfl sc__law_figures.nd (i_str (e_var (pv 1) (by decide : ¬ (1 : Nat) ∈ ([] : List Nat)))) (blkOk_by (own := [("_law_sign", 2)]) (N := N__law_figures) (sc := defScope s__law_figures) (by decide +kernel)) (fun _ _ _ _ _ => (pg_name (i := 2) sc__law_figures.nd rfl (Or.inl rfl))) (fun _ _ _ _ _ => (ts_one (t_cmp op_notInA rl_inA (e_var (pv 2) (by decide : ¬ (2 : Nat) ∈ ([] : List Nat))) e_str))) (fun _ _ _ _ _ => (e_var (pv 2) (by decide : ¬ (2 : Nat) ∈ ([] : List Nat)))) (by decide : ∀ i ∈ ([2] : List Nat), ¬ i ∈ ([] : List Nat)) (by decide : ∀ i ∈ ([2] : List Nat), i ∈ ([2] : List Nat)))) (e_lst a_nil)))))
 (b_one (s_ret e_non))
 b_nil)
 (b_one (s_ret (e_if (t_w (w_and (t_cmp (op_eqA hr.units) rl_eqA (e_ix ix_seq rl_ix (e_var (pv 1) (by decide : ¬ (1 : Nat) ∈ ([] : List Nat))) e_int) e_str) (w_and1 (t_cmp (op_neA hr.units) rl_neA (e_var (pv 0) (by decide : ¬ (0 : Nat) ∈ ([] : List Nat))) e_str)))) e_non (e_callTy (call_int_strB T.lim) rl_intB (by rfl) T.b_int (by decide +kernel) (a_cons (e_var (pv 0) (by decide : ¬ (0 : Nat) ∈ ([] : List Nat))) a_nil)))))))), bodyN F__law_figures_len (fun ds P X h => by
      unfold F__law_figures at h
      split at h
      · exact h
      · exact h.elim) rfl (by decide : ∀ i ∈ ([] : List Nat), 1 ≤ i) h⟩)
-- _law_read : 0:_law_thing 1:_law_head 2:_law_tail 3:_law_shape 4:_law_cells 5:_law_word 6:_law_size
def B__law_read : AS := (sSeq (sIf (aTOr (aTNot (aB (aIs (isT "str") (aV 0)))) (aB (aO (oInA true) (aC (.str ":")) (aV 0))))
 (sRet (aC .non))
 sNext)
 (sSeq (sPar 1 2 (aCons (aO oIx (aM1 mSplit (aV 0) (aC (.str ":"))) (aC (.int 0))) (aCons (aM1 mJoin (aC (.str ":")) (aSl slA (aM1 mSplit (aV 0) (aC (.str ":"))) (pS (aC (.int 1))) pN)) aNil)))
 (sSeq (sSet 3 (aIf (aB (aO oNeA (aV 1) (aC (.str "")))) (aLc (iL (aM1 mSplit (aV 1) (aC (.str " ")))) (Tg.a (.nm 5)) tY (aCall F__law_figures (aCons (aV 5) aNil)) [5]) (aLst aNil)))
 (sSeq (sIf (aTOr (aB (aO (oInA false) (aC .non) (aV 3))) (aTOr (aB (aO oGt (aF fLenA (aCons (aV 3) aNil)) (aC (.int 6)))) (aB (aO oNeA (aLc (iL (aV 3)) (Tg.a (.nm 6)) (aTNot (aB (aCh oLe oLe (aC (.int 0)) (aV 6) (aC (.int 4000))))) (aV 6) [6]) (aLst aNil)))))
 (sRet (aC .non))
 sNext)
 (sSeq (sSet 4 (aLc (iL (aSl slA (aM1 mSplit (aV 2) (aC (.str " "))) (pS (aC (.int 1))) pN)) (Tg.a (.nm 5)) tY (aCall F__law_figures (aCons (aV 5) aNil)) [5]))
 (sSeq (sIf (aTOr (aB (aO (oInA false) (aC .non) (aV 4))) (aTOr (aB (aO oNeA (aO oIx (aM1 mSplit (aV 2) (aC (.str " "))) (aC (.int 0))) (aC (.str "")))) (aB (aO oNeA (aF fLenA (aCons (aV 4) aNil)) (aCall F__law_count (aCons (aV 3) aNil))))))
 (sRet (aC .non))
 sNext)
 (sRet (aTup (aCons (aF fTuple (aCons (aV 3) aNil)) (aCons (aV 4) aNil))))))))))
def F__law_read : AF0 := fun ds P _ => match ds with
  | [a0] => B__law_read  (endP P NX) [some a0, none, none, none, none, none, none]
  | _ => False
theorem F__law_read_len : ∀ ds P X, F__law_read ds P X → ds.length = 1 := fun ds P X h => by
  unfold F__law_read at h
  split at h
  · rfl
  · exact h.elim
theorem ok__law_read (T : Tx w K mg) : FnOk P w K mg base CX0 2 T._law_read.f T._law_read.fd ["_law_thing"] (Lift (cfx T ([] : List Nat) 1) (af0 F__law_read)) :=
  T._law_read.F.ok (k := 1) sc__law_read (Lift.len (cf := (cfx T ([] : List Nat) 1)) (F := af0 (F__law_read)) (fun ds P X h => F__law_read_len ds _ X h)) (fun cdv A outer s H vs Q E hr h => ⟨_, (show Eb _ (cfx T ([] : List Nat) 1) W0 _ B__law_read from (b_cons (s_if (t_w (w_or (t_not (t_val (e_isi (by rfl) T.b_isinstance (e_var (pv 0) (by decide : ¬ (0 : Nat) ∈ ([] : List Nat))) (pe_bltn (v := V.ty "str") (by rfl) T.b_str (by decide +kernel) rfl) (.ty "str") is_str))) (w_or1 (t_cmp op_notInA rl_inA e_str (e_var (pv 0) (by decide : ¬ (0 : Nat) ∈ ([] : List Nat)))))))
 (b_one (s_ret e_non))
 b_nil)
 (b_cons (s_par (i := 1) (j := 2) (by decide : ¬ (1 : Nat) ∈ ([] : List Nat)) (by decide : ¬ (2 : Nat) ∈ ([] : List Nat)) (a_cons (e_ix ix_seq rl_ix (e_split (e_var (pv 0) (by decide : ¬ (0 : Nat) ∈ ([] : List Nat))) e_str) e_int) (a_cons (e_join e_str (e_slice sl_all rl_slA (e_split (e_var (pv 0) (by decide : ¬ (0 : Nat) ∈ ([] : List Nat))) e_str) (o_some e_int) o_none)) a_nil)) (fun h => ps_par (i := 1) (j := 2) (by rfl) sc__law_read.nd rfl rfl (by decide) rfl rfl h (by rfl)))
 (b_cons (s_set (i := 3) sc__law_read.nd rfl (Or.inl rfl) (by decide : ¬ (3 : Nat) ∈ ([] : List Nat)) (e_if (t_cmp (op_neA hr.units) rl_neA (e_var (pv 1) (by decide : ¬ (1 : Nat) ∈ ([] : List Nat))) e_str) (e_new (f_lc (own := [("_law_word", 5)]) (t := (.nm 5)) rfl sc__law_read.nd (i_list (e_split (e_var (pv 1) (by decide : ¬ (1 : Nat) ∈ ([] : List Nat))) e_str)) (blkOk_by (own := [("_law_word", 5)]) (N := N__law_read) (sc := defScope s__law_read) (by decide +kernel)) (fun _ _ _ _ _ => (pg_name (i := 5) sc__law_read.nd rfl (Or.inl rfl))) (fun _ _ _ _ _ => ts_nil) (fun _ _ _ _ _ => (e_call (cg := (cfx T ([] : List Nat) 1)) (runOk (ok__law_figures T) (hr.mono (by decide)) T._law_figures.b (fun σ => at00 σ)) F__law_figures_len (by decide : ∀ i ∈ ([] : List Nat), 1 ≤ i) (by rfl) T._law_figures.mg T._law_figures.F.kp (a_cons (e_var (pv 5) (by decide : ¬ (5 : Nat) ∈ ([] : List Nat))) a_nil))) (by decide : ∀ i ∈ ([5] : List Nat), ¬ i ∈ ([] : List Nat)) (by decide : ∀ i ∈ ([5] : List Nat), i ∈ ([5] : List Nat)))) (e_lst a_nil)))
 (b_cons (s_if (t_w (w_or (t_cmp op_inA rl_inA e_non (e_var (pv 3) (by decide : ¬ (3 : Nat) ∈ ([] : List Nat)))) (w_or (t_cmp op_gt rl_gt (e_callB call_lenA rl_lenA (by rfl) T.b_len (by decide +kernel) (a_cons (e_var (pv 3) (by decide : ¬ (3 : Nat) ∈ ([] : List Nat))) a_nil)) e_int) (w_or1 (t_cmp (op_neA hr.units) rl_neA (e_new (f_lc (own := [("_law_size", 6)]) (t := (.nm 6)) rfl sc__law_read.nd (i_list (e_var (pv 3) (by decide : ¬ (3 : Nat) ∈ ([] : List Nat)))) (blkOk_by (own := [("_law_size", 6)]) (N := N__law_read) (sc := defScope s__law_read) (by decide +kernel)) (fun _ _ _ _ _ => (pg_name (i := 6) sc__law_read.nd rfl (Or.inl rfl))) (fun _ _ _ _ _ => (ts_one (t_not (t_chain op_le op_le rl_le rl_le e_int (e_var (pv 6) (by decide : ¬ (6 : Nat) ∈ ([] : List Nat))) e_int)))) (fun _ _ _ _ _ => (e_var (pv 6) (by decide : ¬ (6 : Nat) ∈ ([] : List Nat)))) (by decide : ∀ i ∈ ([6] : List Nat), ¬ i ∈ ([] : List Nat)) (by decide : ∀ i ∈ ([6] : List Nat), i ∈ ([6] : List Nat)))) (e_lst a_nil))))))
 (b_one (s_ret e_non))
 b_nil)
 (b_cons (s_setLc (j := 4) (own := [("_law_word", 5)]) (t := (.nm 5)) rfl sc__law_read.nd rfl rfl (sw_true rfl rfl rfl (by decide +kernel)) (by decide : ¬ (4 : Nat) ∈ ([] : List Nat)) (i_list (e_slice sl_all rl_slA (e_split (e_var (pv 2) (by decide : ¬ (2 : Nat) ∈ ([] : List Nat))) e_str) (o_some e_int) o_none)) (blkOk_by (own := [("_law_word", 5)]) (N := N__law_read) (sc := defScope s__law_read) (by decide +kernel)) (fun _ _ _ _ _ => (pg_name (i := 5) sc__law_read.nd rfl (Or.inl rfl))) (fun _ _ _ _ _ => ts_nil) (fun _ _ _ _ _ => (e_call (cg := (cfx T ([] : List Nat) 1)) (runOk (ok__law_figures T) (hr.mono (by decide)) T._law_figures.b (fun σ => at00 σ)) F__law_figures_len (by decide : ∀ i ∈ ([] : List Nat), 1 ≤ i) (by rfl) T._law_figures.mg T._law_figures.F.kp (a_cons (e_var (pv 5) (by decide : ¬ (5 : Nat) ∈ ([] : List Nat))) a_nil))) (by decide : ∀ i ∈ ([5] : List Nat), ¬ i ∈ ([] : List Nat)) (by decide : ∀ i ∈ ([5] : List Nat), i ∈ ([5] : List Nat)))
 (b_cons (s_if (t_w (w_or (t_cmp op_inA rl_inA e_non (e_var (pv 4) (by decide : ¬ (4 : Nat) ∈ ([] : List Nat)))) (w_or (t_cmp (op_neA hr.units) rl_neA (e_ix ix_seq rl_ix (e_split (e_var (pv 2) (by decide : ¬ (2 : Nat) ∈ ([] : List Nat))) e_str) e_int) e_str) (w_or1 (t_cmp (op_neA hr.units) rl_neA (e_callB call_lenA rl_lenA (by rfl) T.b_len (by decide +kernel) (a_cons (e_var (pv 4) (by decide : ¬ (4 : Nat) ∈ ([] : List Nat))) a_nil)) (e_call (cg := (cfx T ([] : List Nat) 1)) (runOk (ok__law_count T) (hr.mono (by decide)) T._law_count.b (fun σ => at00 σ)) F__law_count_len (by decide : ∀ i ∈ ([] : List Nat), 1 ≤ i) (by rfl) T._law_count.mg T._law_count.F.kp (a_cons (e_var (pv 3) (by decide : ¬ (3 : Nat) ∈ ([] : List Nat))) a_nil)))))))
 (b_one (s_ret e_non))
 b_nil)
 (b_one (s_ret (e_tup (a_cons (e_callTy call_tuple_of rl_tuple (by rfl) T.b_tuple (by decide +kernel) (a_cons (e_var (pv 3) (by decide : ¬ (3 : Nat) ∈ ([] : List Nat))) a_nil)) (a_cons (e_var (pv 4) (by decide : ¬ (4 : Nat) ∈ ([] : List Nat))) a_nil)))))))))))), bodyN F__law_read_len (fun ds P X h => by
      unfold F__law_read at h
      split at h
      · exact h
      · exact h.elim) rfl (by decide : ∀ i ∈ ([] : List Nat), 1 ≤ i) h⟩)
end
end Cr

namespace Cr
open PySem L2 Al
section
variable {P : Program} {w : World} {K : PySem.W.Frag} {mg : Str → Option Value} {base : Heap}
-- _law_told : 0:_law_thing 1:_law_found 2:_law_error 3:e 4:_law_alone
def B__law_told : AS := (sSeq (sAsg (Tg.a (.tp [1, 2])) (aTup (aCons (aC .non) (aCons (aC .non) aNil))))
 (sSeq (sTryV ([] : List Nat) [1] 1 2 3 (aCallK 0 1 F_read_array (fun ds es => ds ++ es) aNil (aCons (aV 0) aNil)))
 (sSeq (sIf (aB (aO oIsN (aV 2) (aC .non)))
 (sRet (aTup (aCons (aC (.str "read")) (aCons (aF (on1 0 F_Array___repr__ gStr) (aCons (aV 1) aNil)) (aCons (aO oEqA (aF (on1 0 F_Array___str__ gStr) (aCons (aV 1) aNil)) (aV 0)) (aCons (aIs (isC 0) (aV 1)) aNil))))))
 sNext)
 (sSeq (sSet 4 (aAnd (aIs (isX fun c => ([(1, true)] : List (Nat × Bool)).lookup c) (aV 2)) (aNot (aIs (isX fun c => ([(1, false)] : List (Nat × Bool)).lookup c) (aV 2)))))
 (sRet (aTup (aCons (aC (.str "refused")) (aCons (aF fReprT (aCons (aXf (fun c => ([(1, 0)] : List (Nat × Nat)).lookup c) (aV 2)) aNil)) (aCons (aV 4) aNil)))))))))
def F__law_told : AF0 := fun ds P _ => match ds with
  | [a0] => B__law_told  (endP P NX) [some a0, none, none, none, none]
  | _ => False
theorem F__law_told_len : ∀ ds P X, F__law_told ds P X → ds.length = 1 := fun ds P X h => by
  unfold F__law_told at h
  split at h
  · rfl
  · exact h.elim
theorem ok__law_told (T : Tx w K mg) : FnG P w K mg base CX0 9 T._law_told.f T._law_told.fd ["_law_thing"] (Lift (cfx T ([] : List Nat) 1) (af0 F__law_told)) :=
  okG T._law_told.F (k := 8) sc__law_told (Lift.len (cf := (cfx T ([] : List Nat) 1)) (F := af0 (F__law_told)) (fun ds P X h => F__law_told_len ds _ X h)) (fun cdv A outer s H vs Q E hr gd h => have hg := And.intro gd (units66 hr)
    ⟨_, (show Eb _ (cfx T ([] : List Nat) 1) W0 _ B__law_told from (b_cons (s_asg (e_tup (a_cons e_non (a_cons e_non a_nil))) (g_tg (t := (.tp [1, 2])) (pg_tup rfl (pgs_cons (pg_name (i := 1) sc__law_told.nd rfl (Or.inl rfl)) (pgs_cons (pg_name (i := 2) sc__law_told.nd rfl (Or.inl rfl)) pgs_nil))) (by decide : ∀ j ∈ ([1, 2] : List Nat), ¬ j ∈ ([] : List Nat))) (fun h g => ps_asg h g))
 (b_cons (s_tryV1 (cs := [1]) (C := .ref T.C_NoText) (j := 1) (i := 2) (k := 3) (by decide : ¬ (1 : Nat) ∈ ([] : List Nat)) (by decide : ¬ (2 : Nat) ∈ ([] : List Nat)) (by decide : ¬ (3 : Nat) ∈ ([] : List Nat)) (by decide) rfl (by intro c hc; simp only [List.mem_cons, List.not_mem_nil, or_false] at hc; subst hc; exact T.s_NoText) (ps_try_keep (i := 3) rfl rfl rfl sc__law_told.nd rfl rfl (by exact ⟨rfl, by decide, .inl T.m_NoText⟩) (fun W pn xe tk _ => pss_one (ps_set (i := 1) sc__law_told.nd rfl (Or.inl rfl) (e_callK0X (cg := (cfx T ([] : List Nat) 1)) (runKX (ok_read_array T) (hr.mono (by decide)) (kbn_all (ks := ["text"]) (n := 0) T.read_array.F (fun _ _ _ _ _ _ us ws h1 h2 => match us, ws, h1, h2 with | [], [_], _, _ => rfl)) (fun σ => passAt tk σ)) F_read_array_len (by decide : ∀ i ∈ ([] : List Nat), 1 ≤ i) (by rfl) T.read_array.mg T.read_array.F.kp gok_app (k_cons (e_var (pv 0) (by decide : ¬ (0 : Nat) ∈ ([] : List Nat))) k_nil)))) (fun a oe pn => pss_one (ps_set (i := 2) sc__law_told.nd rfl (Or.inl rfl) (pv 3)))))
 (b_cons (s_if (t_cmp op_isN rl_isN (e_var (pv 2) (by decide : ¬ (2 : Nat) ∈ ([] : List Nat))) e_non)
 (b_one (s_ret (e_tup (a_cons e_str (a_cons (e_callB (call_reprO T.Array___repr__.m.at_ T.Array___repr__.m.fn (ok_Array___repr__ T) T.Array___repr__.b (hr.mono (by decide)) gd) (rl_1 (c := 0) (cg := (cfx T ([] : List Nat) 1)) F_Array___repr___len (by decide : ∀ i ∈ ([] : List Nat), 1 ≤ i) (fun P Q d v G H q r h => hg_str P Q d v G H q r h)) (by rfl) T.b_repr (by decide +kernel) (a_cons (e_var (pv 1) (by decide : ¬ (1 : Nat) ∈ ([] : List Nat))) a_nil)) (a_cons (e_cmp (op_eqA hr.units) rl_eqA (e_callTy (call_strO T.Array___str__.m.at_ T.Array___str__.m.fn (ok_Array___str__ T) T.Array___str__.b (hr.mono (by decide))) (rl_1 (c := 0) (cg := (cfx T ([] : List Nat) 1)) F_Array___str___len (by decide : ∀ i ∈ ([] : List Nat), 1 ≤ i) (fun P Q d v G H q r h => hg_str P Q d v G H q r h)) (by rfl) T.b_str (by decide +kernel) (a_cons (e_var (pv 1) (by decide : ¬ (1 : Nat) ∈ ([] : List Nat))) a_nil)) (e_var (pv 0) (by decide : ¬ (0 : Nat) ∈ ([] : List Nat)))) (a_cons (e_isi (by rfl) T.b_isinstance (e_var (pv 1) (by decide : ¬ (1 : Nat) ∈ ([] : List Nat))) (pe_glob (v := V.ref T.C_Array) (by rfl) T.Array.mg rfl) (.own T.C_Array) (isC_ok (c := 0) rfl T.ot_Array)) a_nil)))))))
 b_nil)
 (b_cons (s_set (i := 4) sc__law_told.nd rfl (Or.inl rfl) (by decide : ¬ (4 : Nat) ∈ ([] : List Nat)) (e_and (e_isX (tb := fun c => ([(1, true)] : List (Nat × Bool)).lookup c) (by rfl) T.b_isinstance (e_var (pv 2) (by decide : ¬ (2 : Nat) ∈ ([] : List Nat))) (pe_bltn (v := V.ty "ValueError") (by rfl) T.b_ValueError (by decide +kernel) rfl) (.ty "ValueError") (isx_ok (by intro p hp; simp only [List.mem_cons, List.not_mem_nil, or_false] at hp; subst hp; exact ⟨⟨_, _, _, _, T.x_NoText⟩, T.kv_NoText⟩))) (e_one (e_not (e_isXT (tb := fun c => ([(1, false)] : List (Nat × Bool)).lookup c) (cvs := [.ref T.C_NoShape, .ref T.C_Miscount, .ref T.C_NoTree]) (by rfl) T.b_isinstance (e_var (pv 2) (by decide : ¬ (2 : Nat) ∈ ([] : List Nat))) (pa_cons (pe_glob (v := V.ref T.C_NoShape) (by rfl) T.m_NoShape rfl) (pa_cons (pe_glob (v := V.ref T.C_Miscount) (by rfl) T.m_Miscount rfl) (pa_cons (pe_glob (v := V.ref T.C_NoTree) (by rfl) T.m_NoTree rfl) pa_nil))) (by show 3 ≤ sizeLine; decide) (.cons (.own T.C_NoShape) (.cons (.own T.C_Miscount) (.cons (.own T.C_NoTree) .nil))) (isxt_ok (by intro p hp; simp only [List.mem_cons, List.not_mem_nil, or_false] at hp; subst hp; exact ⟨⟨_, _, _, _, T.x_NoText⟩, T.kt_NoText⟩)))))))
 (b_one (s_ret (e_tup (a_cons e_str (a_cons (e_callB (call_reprT hg) rl_reprT (by rfl) T.b_repr (by decide +kernel) (a_cons (e_xf (tb := fun c => ([(1, 0)] : List (Nat × Nat)).lookup c) (xf_ok (by intro p hp; simp only [List.mem_cons, List.not_mem_nil, or_false] at hp; subst hp; exact ⟨⟨_, _, _, _, T.x_NoText⟩, T.n_NoText_text, rfl, nmNd 1⟩)) (e_var (pv 2) (by decide : ¬ (2 : Nat) ∈ ([] : List Nat)))) a_nil)) (a_cons (e_var (pv 4) (by decide : ¬ (4 : Nat) ∈ ([] : List Nat))) a_nil))))))))))), bodyN F__law_told_len (fun ds P X h => by
      unfold F__law_told at h
      split at h
      · exact h
      · exact h.elim) rfl (by decide : ∀ i ∈ ([] : List Nat), 1 ≤ i) h⟩)
end
end Cr

namespace Cr
open PySem L2 Al
section
variable {P : Program} {w : World} {K : PySem.W.Frag} {mg : Str → Option Value} {base : Heap}
-- _law_spoilt : 0:_law_feed_here 1:_law_told_here 2:_law_signs 3:_law_at 4:_law_sign 5:_law_way 6:_law_words 7:_law_spot 8:_law_menu 9:_law_ahead 10:_law_behind 11:_law_more 12:_law_begin 13:_law_rest 14:_law_some
def B__law_spoilt : AS := (sSeq (sSet 2 (aC (.str " !\"#$&'()*+,-./0123456789:;<=>?@ABCDEFGHIJKLMNOPQRSTUVWXYZ")))
 (sSeq (sSet 2 (aO oAddA (aV 2) (aC (.str "[\\]^_`abcdefghijklmnopqrstuvwxyz{|}~
"))))
 (sSeq (sPar3 3 4 5 (aCons (aCallO 0 F__law_draw (aCons (aO oAddA (aF fLenA (aCons (aV 1) aNil)) (aC (.int 1))) aNil)) (aCons (aCallO 0 F__law_of (aCons (aV 2) aNil)) (aCons (aCallO 0 F__law_draw (aCons (aC (.int 9)) aNil)) aNil))))
 (sSeq (sSet 6 (aM1 mSplit (aV 1) (aC (.str " "))))
 (sSeq (sSet 7 (aCallO 0 F__law_draw (aCons (aF fLenA (aCons (aV 6) aNil)) aNil)))
 (sSeq (sSet 8 (aLst (aCons (aC (.str "")) (aCons (aC (.str "0")) (aCons (aC (.str "00")) (aCons (aC (.str "-0")) (aCons (aC (.str "-1")) (aCons (aC (.str "+1")) (aCons (aC (.str "1.0")) (aCons (aC (.str "1:")) (aCons (aC (.str ":")) (aCons (aC (.str "2:")) (aCons (aC (.str "4001:")) (aCons (aO oMulA (aC (.str "9")) (aC (.int 4001))) (aCons (aO oMulA (aC (.str "9")) (aC (.int 4000))) (aCons (aC (.str "-")) (aCons (aC (.str "1,2")) aNil)))))))))))))))))
 (sSeq (sSet 8 (aO oAddA (aV 8) (aLst (aCons (aO oAddA (aC (.str "-")) (aO oMulA (aC (.str "9")) (aC (.int 4000)))) (aCons (aO oAddA (aC (.str "-")) (aO oMulA (aC (.str "9")) (aC (.int 4001)))) (aCons (aO oAddA (aC (.str "1")) (aO oMulA (aC (.str "0")) (aC (.int 3999)))) aNil))))))
 (sSeq (sPar3 9 10 11 (aCons (aSl slA (aV 6) pN (pS (aV 7))) (aCons (aSl slA (aV 6) (pS (aO oAddA (aV 7) (aC (.int 1)))) pN) (aCons (aCallO 0 F__law_of (aCons (aV 8) aNil)) aNil))))
 (sSeq (sIf (aB (aO oLt (aV 5) (aC (.int 4))))
 (sSeq (sPar 12 13 (aCons (aSl slA (aV 1) pN (pS (aV 3))) (aCons (aSl slA (aV 1) (pS (aV 3)) pN) aNil)))
 (sRet (aO oIx (aLst (aCons (aO oAddA (aO oAddA (aV 12) (aV 4)) (aV 13)) (aCons (aO oAddA (aV 12) (aSl slA (aV 13) (pS (aC (.int 1))) pN)) (aCons (aO oAddA (aO oAddA (aV 12) (aV 4)) (aSl slA (aV 13) (pS (aC (.int 1))) pN)) (aCons (aO oAddA (aO oAddA (aV 12) (aU oRevS (aSl slA (aV 13) pN (pS (aC (.int 2)))))) (aSl slA (aV 13) (pS (aC (.int 2))) pN)) aNil))))) (aV 5))))
 sNext)
 (sSeq (sSet 14 (aLst (aCons (aO oAddA (aV 9) (aV 10)) (aCons (aO oAddA (aO oAddA (aV 9) (aSl slA (aV 6) (pS (aV 7)) (pS (aO oAddA (aV 7) (aC (.int 1)))))) (aSl slA (aV 6) (pS (aV 7)) pN)) (aCons (aO oAddA (aO oAddA (aV 9) (aLst (aCons (aV 11) aNil))) (aV 10)) aNil)))))
 (sSeq (sSet 14 (aO oAddA (aV 14) (aLst (aCons (aO oAddA (aO oAddA (aV 9) (aLst (aCons (aV 11) aNil))) (aSl slA (aV 6) (pS (aV 7)) pN)) (aCons (aO oAddA (aSl slA (aV 6) pN (pS (aO oAddA (aV 7) (aC (.int 1))))) (aU oRevL (aV 6))) aNil)))))
 (sRet (aM1 mJoin (aC (.str " ")) (aO oIx (aV 14) (aO oSub (aV 5) (aC (.int 4)))))))))))))))))
def F__law_spoilt : AFo := fun a0 ds P _ => match ds with
  | [a1] => B__law_spoilt  (endO P NX) [some a0, some a1, none, none, none, none, none, none, none, none, none, none, none, none, none]
  | _ => False
theorem F__law_spoilt_len : ∀ o ds P X, F__law_spoilt o ds P X → ds.length + 1 = 2 := fun o ds P X h => by
  unfold F__law_spoilt at h
  split at h
  · rfl
  · exact h.elim
theorem ok__law_spoilt (T : Tx w K mg) : FnOk P w K mg base CX0 3 T._law_spoilt.f T._law_spoilt.fd ["_law_feed_here", "_law_told_here"] (Lift (cfx T ([0] : List Nat) 2) (afo F__law_spoilt)) :=
  T._law_spoilt.F.ok (k := 2) sc__law_spoilt (Lift.len (cf := (cfx T ([0] : List Nat) 2)) (F := afo (F__law_spoilt)) (fun ds P X h => by
      cases ds with
      | nil => exact h.elim
      | cons o ds => exact F__law_spoilt_len o ds _ X h)) (fun cdv A outer s H vs Q E hr h => ⟨_, (show Eb _ (cfx T ([0] : List Nat) 2) W0 _ B__law_spoilt from (b_cons (s_set (i := 2) sc__law_spoilt.nd rfl (Or.inl rfl) (by decide : ¬ (2 : Nat) ∈ ([0] : List Nat)) e_str)
 (b_cons (s_set (i := 2) sc__law_spoilt.nd rfl (Or.inl rfl) (by decide : ¬ (2 : Nat) ∈ ([0] : List Nat)) (e_op op_addA rl_addA (e_var (pv 2) (by decide : ¬ (2 : Nat) ∈ ([0] : List Nat))) e_str))
 (b_cons (s_par3 (i := 3) (j := 4) (l := 5) (by decide : ¬ (3 : Nat) ∈ ([0] : List Nat)) (by decide : ¬ (4 : Nat) ∈ ([0] : List Nat)) (by decide : ¬ (5 : Nat) ∈ ([0] : List Nat)) (a_cons (e_callO (cg := (cfx T ([0] : List Nat) 2)) (i := 0) (runOk (ok__law_draw T) (hr.mono (by decide)) T._law_draw.b (fun σ => at00 σ)) F__law_draw_len (by decide : 0 ∈ ([0] : List Nat)) (by decide : ∀ i ∈ ([0] : List Nat), i = 0 ∨ 2 ≤ i) (by rfl) T._law_draw.mg T._law_draw.F.kp (pv 0) (by decide : (0 : Nat) ∈ ([0] : List Nat)) (a_cons (e_op op_addA rl_addA (e_callB call_lenA rl_lenA (by rfl) T.b_len (by decide +kernel) (a_cons (e_var (pv 1) (by decide : ¬ (1 : Nat) ∈ ([0] : List Nat))) a_nil)) e_int) a_nil)) (a_cons (e_callO (cg := (cfx T ([0] : List Nat) 2)) (i := 0) (runOk (ok__law_of T) (hr.mono (by decide)) T._law_of.b (fun σ => at00 σ)) F__law_of_len (by decide : 0 ∈ ([0] : List Nat)) (by decide : ∀ i ∈ ([0] : List Nat), i = 0 ∨ 2 ≤ i) (by rfl) T._law_of.mg T._law_of.F.kp (pv 0) (by decide : (0 : Nat) ∈ ([0] : List Nat)) (a_cons (e_var (pv 2) (by decide : ¬ (2 : Nat) ∈ ([0] : List Nat))) a_nil)) (a_cons (e_callO (cg := (cfx T ([0] : List Nat) 2)) (i := 0) (runOk (ok__law_draw T) (hr.mono (by decide)) T._law_draw.b (fun σ => at00 σ)) F__law_draw_len (by decide : 0 ∈ ([0] : List Nat)) (by decide : ∀ i ∈ ([0] : List Nat), i = 0 ∨ 2 ≤ i) (by rfl) T._law_draw.mg T._law_draw.F.kp (pv 0) (by decide : (0 : Nat) ∈ ([0] : List Nat)) (a_cons e_int a_nil)) a_nil))) (fun h => ps_par3 (i := 3) (j := 4) (l := 5) (by rfl) sc__law_spoilt.nd rfl rfl rfl (by decide) (by decide) (by decide) rfl rfl rfl h (by rfl)))
 (b_cons (s_set (i := 6) sc__law_spoilt.nd rfl (Or.inl rfl) (by decide : ¬ (6 : Nat) ∈ ([0] : List Nat)) (e_split (e_var (pv 1) (by decide : ¬ (1 : Nat) ∈ ([0] : List Nat))) e_str))
 (b_cons (s_set (i := 7) sc__law_spoilt.nd rfl (Or.inl rfl) (by decide : ¬ (7 : Nat) ∈ ([0] : List Nat)) (e_callO (cg := (cfx T ([0] : List Nat) 2)) (i := 0) (runOk (ok__law_draw T) (hr.mono (by decide)) T._law_draw.b (fun σ => at00 σ)) F__law_draw_len (by decide : 0 ∈ ([0] : List Nat)) (by decide : ∀ i ∈ ([0] : List Nat), i = 0 ∨ 2 ≤ i) (by rfl) T._law_draw.mg T._law_draw.F.kp (pv 0) (by decide : (0 : Nat) ∈ ([0] : List Nat)) (a_cons (e_callB call_lenA rl_lenA (by rfl) T.b_len (by decide +kernel) (a_cons (e_var (pv 6) (by decide : ¬ (6 : Nat) ∈ ([0] : List Nat))) a_nil)) a_nil)))
 (b_cons (s_set (i := 8) sc__law_spoilt.nd rfl (Or.inl rfl) (by decide : ¬ (8 : Nat) ∈ ([0] : List Nat)) (e_lst (a_cons e_str (a_cons e_str (a_cons e_str (a_cons e_str (a_cons e_str (a_cons e_str (a_cons e_str (a_cons e_str (a_cons e_str (a_cons e_str (a_cons e_str (a_cons (e_op op_mulA rl_mulA e_str e_int) (a_cons (e_op op_mulA rl_mulA e_str e_int) (a_cons e_str (a_cons e_str a_nil)))))))))))))))))
 (b_cons (s_set (i := 8) sc__law_spoilt.nd rfl (Or.inl rfl) (by decide : ¬ (8 : Nat) ∈ ([0] : List Nat)) (e_op op_addA rl_addA (e_var (pv 8) (by decide : ¬ (8 : Nat) ∈ ([0] : List Nat))) (e_lst (a_cons (e_op op_addA rl_addA e_str (e_op op_mulA rl_mulA e_str e_int)) (a_cons (e_op op_addA rl_addA e_str (e_op op_mulA rl_mulA e_str e_int)) (a_cons (e_op op_addA rl_addA e_str (e_op op_mulA rl_mulA e_str e_int)) a_nil))))))
 (b_cons (s_par3 (i := 9) (j := 10) (l := 11) (by decide : ¬ (9 : Nat) ∈ ([0] : List Nat)) (by decide : ¬ (10 : Nat) ∈ ([0] : List Nat)) (by decide : ¬ (11 : Nat) ∈ ([0] : List Nat)) (a_cons (e_slice sl_all rl_slA (e_var (pv 6) (by decide : ¬ (6 : Nat) ∈ ([0] : List Nat))) o_none (o_some (e_var (pv 7) (by decide : ¬ (7 : Nat) ∈ ([0] : List Nat))))) (a_cons (e_slice sl_all rl_slA (e_var (pv 6) (by decide : ¬ (6 : Nat) ∈ ([0] : List Nat))) (o_some (e_op op_addA rl_addA (e_var (pv 7) (by decide : ¬ (7 : Nat) ∈ ([0] : List Nat))) e_int)) o_none) (a_cons (e_callO (cg := (cfx T ([0] : List Nat) 2)) (i := 0) (runOk (ok__law_of T) (hr.mono (by decide)) T._law_of.b (fun σ => at00 σ)) F__law_of_len (by decide : 0 ∈ ([0] : List Nat)) (by decide : ∀ i ∈ ([0] : List Nat), i = 0 ∨ 2 ≤ i) (by rfl) T._law_of.mg T._law_of.F.kp (pv 0) (by decide : (0 : Nat) ∈ ([0] : List Nat)) (a_cons (e_var (pv 8) (by decide : ¬ (8 : Nat) ∈ ([0] : List Nat))) a_nil)) a_nil))) (fun h => ps_par3 (i := 9) (j := 10) (l := 11) (by rfl) sc__law_spoilt.nd rfl rfl rfl (by decide) (by decide) (by decide) rfl rfl rfl h (by rfl)))
 (b_cons (s_if (t_cmp op_lt rl_lt (e_var (pv 5) (by decide : ¬ (5 : Nat) ∈ ([0] : List Nat))) e_int)
 (b_cons (s_par (i := 12) (j := 13) (by decide : ¬ (12 : Nat) ∈ ([0] : List Nat)) (by decide : ¬ (13 : Nat) ∈ ([0] : List Nat)) (a_cons (e_slice sl_all rl_slA (e_var (pv 1) (by decide : ¬ (1 : Nat) ∈ ([0] : List Nat))) o_none (o_some (e_var (pv 3) (by decide : ¬ (3 : Nat) ∈ ([0] : List Nat))))) (a_cons (e_slice sl_all rl_slA (e_var (pv 1) (by decide : ¬ (1 : Nat) ∈ ([0] : List Nat))) (o_some (e_var (pv 3) (by decide : ¬ (3 : Nat) ∈ ([0] : List Nat)))) o_none) a_nil)) (fun h => ps_par (i := 12) (j := 13) (by rfl) sc__law_spoilt.nd rfl rfl (by decide) rfl rfl h (by rfl)))
 (b_one (s_ret (e_ix ix_seq rl_ix (e_lst (a_cons (e_op op_addA rl_addA (e_op op_addA rl_addA (e_var (pv 12) (by decide : ¬ (12 : Nat) ∈ ([0] : List Nat))) (e_var (pv 4) (by decide : ¬ (4 : Nat) ∈ ([0] : List Nat)))) (e_var (pv 13) (by decide : ¬ (13 : Nat) ∈ ([0] : List Nat)))) (a_cons (e_op op_addA rl_addA (e_var (pv 12) (by decide : ¬ (12 : Nat) ∈ ([0] : List Nat))) (e_slice sl_all rl_slA (e_var (pv 13) (by decide : ¬ (13 : Nat) ∈ ([0] : List Nat))) (o_some e_int) o_none)) (a_cons (e_op op_addA rl_addA (e_op op_addA rl_addA (e_var (pv 12) (by decide : ¬ (12 : Nat) ∈ ([0] : List Nat))) (e_var (pv 4) (by decide : ¬ (4 : Nat) ∈ ([0] : List Nat)))) (e_slice sl_all rl_slA (e_var (pv 13) (by decide : ¬ (13 : Nat) ∈ ([0] : List Nat))) (o_some e_int) o_none)) (a_cons (e_op op_addA rl_addA (e_op op_addA rl_addA (e_var (pv 12) (by decide : ¬ (12 : Nat) ∈ ([0] : List Nat))) (e_revS (e_slice sl_all rl_slA (e_var (pv 13) (by decide : ¬ (13 : Nat) ∈ ([0] : List Nat))) o_none (o_some e_int)))) (e_slice sl_all rl_slA (e_var (pv 13) (by decide : ¬ (13 : Nat) ∈ ([0] : List Nat))) (o_some e_int) o_none)) a_nil))))) (e_var (pv 5) (by decide : ¬ (5 : Nat) ∈ ([0] : List Nat)))))))
 b_nil)
 (b_cons (s_set (i := 14) sc__law_spoilt.nd rfl (Or.inl rfl) (by decide : ¬ (14 : Nat) ∈ ([0] : List Nat)) (e_lst (a_cons (e_op op_addA rl_addA (e_var (pv 9) (by decide : ¬ (9 : Nat) ∈ ([0] : List Nat))) (e_var (pv 10) (by decide : ¬ (10 : Nat) ∈ ([0] : List Nat)))) (a_cons (e_op op_addA rl_addA (e_op op_addA rl_addA (e_var (pv 9) (by decide : ¬ (9 : Nat) ∈ ([0] : List Nat))) (e_slice sl_all rl_slA (e_var (pv 6) (by decide : ¬ (6 : Nat) ∈ ([0] : List Nat))) (o_some (e_var (pv 7) (by decide : ¬ (7 : Nat) ∈ ([0] : List Nat)))) (o_some (e_op op_addA rl_addA (e_var (pv 7) (by decide : ¬ (7 : Nat) ∈ ([0] : List Nat))) e_int)))) (e_slice sl_all rl_slA (e_var (pv 6) (by decide : ¬ (6 : Nat) ∈ ([0] : List Nat))) (o_some (e_var (pv 7) (by decide : ¬ (7 : Nat) ∈ ([0] : List Nat)))) o_none)) (a_cons (e_op op_addA rl_addA (e_op op_addA rl_addA (e_var (pv 9) (by decide : ¬ (9 : Nat) ∈ ([0] : List Nat))) (e_lst (a_cons (e_var (pv 11) (by decide : ¬ (11 : Nat) ∈ ([0] : List Nat))) a_nil))) (e_var (pv 10) (by decide : ¬ (10 : Nat) ∈ ([0] : List Nat)))) a_nil)))))
 (b_cons (s_set (i := 14) sc__law_spoilt.nd rfl (Or.inl rfl) (by decide : ¬ (14 : Nat) ∈ ([0] : List Nat)) (e_op op_addA rl_addA (e_var (pv 14) (by decide : ¬ (14 : Nat) ∈ ([0] : List Nat))) (e_lst (a_cons (e_op op_addA rl_addA (e_op op_addA rl_addA (e_var (pv 9) (by decide : ¬ (9 : Nat) ∈ ([0] : List Nat))) (e_lst (a_cons (e_var (pv 11) (by decide : ¬ (11 : Nat) ∈ ([0] : List Nat))) a_nil))) (e_slice sl_all rl_slA (e_var (pv 6) (by decide : ¬ (6 : Nat) ∈ ([0] : List Nat))) (o_some (e_var (pv 7) (by decide : ¬ (7 : Nat) ∈ ([0] : List Nat)))) o_none)) (a_cons (e_op op_addA rl_addA (e_slice sl_all rl_slA (e_var (pv 6) (by decide : ¬ (6 : Nat) ∈ ([0] : List Nat))) o_none (o_some (e_op op_addA rl_addA (e_var (pv 7) (by decide : ¬ (7 : Nat) ∈ ([0] : List Nat))) e_int))) (e_revL (e_var (pv 6) (by decide : ¬ (6 : Nat) ∈ ([0] : List Nat))))) a_nil)))))
 (b_one (s_ret (e_join e_str (e_ix ix_seq rl_ix (e_var (pv 14) (by decide : ¬ (14 : Nat) ∈ ([0] : List Nat))) (e_op op_sub rl_sub (e_var (pv 5) (by decide : ¬ (5 : Nat) ∈ ([0] : List Nat))) e_int))))))))))))))))), bodyON F__law_spoilt_len (fun o ds P X h => by
      unfold F__law_spoilt at h
      split at h
      · exact h
      · exact h.elim) rfl (by decide : 0 ∈ ([0] : List Nat)) (by decide : ∀ i ∈ ([0] : List Nat), i = 0 ∨ 2 ≤ i) (by decide : 0 < 2) h⟩)
end
end Cr

namespace Cr
open PySem L2 Al
section
variable {P : Program} {w : World} {K : PySem.W.Frag} {mg : Str → Option Value} {base : Heap}
-- law : 0:_law_script 1:_law_feed_here 2:_law_last 3:_law_odd 4:_law_turn 5:_law_shape 6:_law_board 7:_law_told_here 8:_law_array 9:_law_again 10:_law_thing 11:_law_due 12:_law_wanted 13:_law_whole 14:_law_k 15:_law_cell
def B_law : AS := (sSeq (sSet 1 (aCall F__law_feed (aCons (aV 0) aNil)))
 (sSeq (sPar 2 3 (aCons (aTup (aCons (aTup (aCons (aTup aNil) (aCons (aLst (aCons (aC (.int 7)) aNil)) aNil))) (aCons (aMake 0 F_Array___init__ (aCons (aTup aNil) (aCons (aLst (aCons (aC (.int 7)) aNil)) aNil))) aNil))) (aCons (aLst (aCons (aC .non) (aCons (aC (.int 5)) (aCons (aC (.bl true)) (aCons (aLst aNil) (aCons (aLst (aCons (aC (.str "2: 1 2")) aNil)) (aCons (aTup aNil) (aCons (aC (.dic [])) (aCons (aC (.str "")) (aCons (aC (.str " ")) (aCons (aC (.str ":")) (aCons (aC (.str "1: ")) (aCons (aC (.str ": 1 ")) aNil))))))))))))) aNil)))
 (sSeq (sFor (iR1 (aCons (aF fMax2 (aCons (aC (.int 5)) (aCons (aF fMin2 (aCons (aC (.int 15)) (aCons (aF fLenA (aCons (aV 0) aNil)) aNil))) aNil))) aNil)) (Tg.a (.nm 4))
 (sSeq (sSet 5 (aCallO 1 F__law_base (aCons (aO oIx (aLst (aCons (aC (.int 1)) (aCons (aC (.int 3)) (aCons (aC (.int 6)) aNil)))) (aCallO 1 F__law_draw (aCons (aC (.int 3)) aNil))) (aCons (aC (.int 4)) aNil))))
 (sSeq (sSet 5 (aIf (aB (aO oLe (aCall F__law_count (aCons (aV 5) aNil)) (aC (.int 300)))) (aV 5) (aSl slA (aV 5) pN (pS (aC (.int 3))))))
 (sSeq (sSet 6 (aTup (aCons (aV 5) (aCons (aLc (iR1 (aCons (aCall F__law_count (aCons (aV 5) aNil)) aNil)) (Tg.a (.nm 14)) tY (aCallO 1 F__law_number aNil) [14]) aNil))))
 (sSeq (sIf (aB (aO oLt (aF fLenA (aCons (aO oIx (aV 6) (aC (.int 1))) aNil)) (aC (.int 20))))
 (sSet 6 (aTup (aCons (aV 5) (aCons (aLc (iL (aO oIx (aV 6) (aC (.int 1)))) (Tg.a (.nm 15)) tY (aCallO 1 F__law_great aNil) [15]) aNil))))
 sNext)
 (sSeq (sSet 7 (aCall F__law_array_text (aCons (aV 6) aNil)))
 (sSeq (sSet 8 (aCall F_read_array (aCons (aV 7) aNil)))
 (sSeq (sIf (aTOr (aB (aO oNeA (aF (on1 0 F_Array___str__ gStr) (aCons (aV 8) aNil)) (aV 7))) (aTOr (aTNot (aTr (aCall F__law_is_board (aCons (aV 8) (aCons (aV 6) aNil))))) (aB (aO oNeA (aO oEqA (aO oIx (aV 2) (aC (.int 0))) (aV 6)) (aO (oEqI 0 F_Array___eq__ false) (aO oIx (aV 2) (aC (.int 1))) (aV 8))))))
 (sRet (aC (.bl false)))
 sNext)
 (sSeq (sSet 2 (aTup (aCons (aV 6) (aCons (aV 8) aNil))))
 (sSeq (sFor (iR1 (aCons (aCallO 1 F__law_draw (aCons (aC (.int 3)) aNil)) aNil)) (Tg.a (.nm 9))
 (sSet 7 (aCallO 1 F__law_spoilt (aCons (aV 7) aNil))))
 (sFor (iL (aLst (aCons (aV 7) (aCons (aCallO 1 F__law_of (aCons (aV 3) aNil)) aNil)))) (Tg.a (.nm 10))
 (sSeq (sSet 11 (aCall F__law_read (aCons (aV 10) aNil)))
 (sSeq (sSet 12 (aTup (aCons (aC (.str "refused")) (aCons (aF fReprT (aCons (aV 10) aNil)) (aCons (aC (.bl true)) aNil)))))
 (sSeq (sIf (aB (aO oNotN (aV 11) (aC .non)))
 (sSet 12 (aTup (aCons (aC (.str "read")) (aCons (aO oAddA (aO oAddA (aO oAddA (aO oAddA (aC (.str "Array(")) (aF fRepr (aCons (aO oIx (aV 11) (aC (.int 0))) aNil))) (aC (.str ", "))) (aF fReprTB (aCons (aF fTuple (aCons (aO oIx (aV 11) (aC (.int 1))) aNil)) aNil))) (aC (.str ")"))) (aCons (aC (.bl true)) (aCons (aC (.bl true)) aNil))))))
 sNext)
 (sIf (aB (aO oNeA (aCall F__law_told (aCons (aV 10) aNil)) (aV 12)))
 (sRet (aC (.bl false)))
 sNext)))))))))))))))
 (sSeq (sSet 13 (aMake 0 F_Array___init__ (aCons (aTup (aCons (aC (.int 2)) (aCons (aC (.int 1)) aNil))) (aCons (aLst (aCons (aC (.int 4)) (aCons (aU oNeg (aC (.int 5))) aNil))) aNil))))
 (sRet (aAnd (aO (oEqI 0 F_Array___eq__ false) (aCall F_read_array (aCons (aC (.str "0 3:")) aNil)) (aMake 0 F_Array___init__ (aCons (aTup (aCons (aC (.int 0)) (aCons (aC (.int 3)) aNil))) (aCons (aTup aNil) aNil)))) (aAnd (aO (oEqI 0 F_Array___eq__ false) (aCall F_read_array (aCons (aF (on1 0 F_Array___str__ gStr) (aCons (aV 13) aNil)) aNil)) (aV 13)) (aO oEqA (aF (on1 0 F_Array___str__ gStr) (aCons (aV 13) aNil)) (aC (.str "2 1: 4 -5"))))))))))
def F_law : AF0 := fun ds P _ => match ds with
  | [a0] => B_law  (endP P NX) [some a0, none, none, none, none, none, none, none, none, none, none, none, none, none, none, none]
  | _ => False
theorem F_law_len : ∀ ds P X, F_law ds P X → ds.length = 1 := fun ds P X h => by
  unfold F_law at h
  split at h
  · rfl
  · exact h.elim
theorem ok_law (T : Tx w K mg) {f0 : Addr} {fd0 : FuncData} (F0 : Fun K "law" "law" s_law f0 fd0) : FnG P w K mg base CX0 25 f0 fd0 ["_law_script"] (Lift (cfx T ([1] : List Nat) 1) (af0 F_law)) :=
  okG F0 (k := 24) sc_law (Lift.len (cf := (cfx T ([1] : List Nat) 1)) (F := af0 (F_law)) (fun ds P X h => F_law_len ds _ X h)) (fun cdv A outer s H vs Q E hr gd h => have hg := And.intro gd (units66 hr)
    ⟨_, (show Eb _ (cfx T ([1] : List Nat) 1) W0 _ B_law from (b_cons (s_setO (i := 1) sc_law.nd rfl (Or.inr rfl) (by decide : (1 : Nat) ∈ ([1] : List Nat)) (by decide : 1 ≤ 1) (f_call (cg := (cfx T ([] : List Nat) 1)) (runOk (ok__law_feed T) (hr.mono (by decide)) T._law_feed.b (fun σ => at00 σ)) F__law_feed_len (by decide : ∀ i ∈ ([] : List Nat), 1 ≤ i) (by rfl) T._law_feed.mg T._law_feed.F.kp (a_cons (e_var (pv 0) (by decide : ¬ (0 : Nat) ∈ ([1] : List Nat))) a_nil)))
 (b_cons (s_par (i := 2) (j := 3) (by decide : ¬ (2 : Nat) ∈ ([1] : List Nat)) (by decide : ¬ (3 : Nat) ∈ ([1] : List Nat)) (a_cons (e_tup (a_cons (e_tup (a_cons (e_tup a_nil) (a_cons (e_lst (a_cons e_int a_nil)) a_nil))) (a_cons (e_new (f_make (cg := (cfx T ([0] : List Nat) 3)) (c := 0) (runMk T.Array.mkk (ok_Array___init__ T) (hr.mono (by decide)) T.Array___init__.b (fun σ => at00 σ)) F_Array___init___len (by decide : 0 ∈ ([0] : List Nat)) (by decide : ∀ i ∈ ([0] : List Nat), i = 0 ∨ 3 ≤ i) rfl (by rfl) T.Array.mg T.Array.mkk.kp (a_cons (e_tup a_nil) (a_cons (e_lst (a_cons e_int a_nil)) a_nil)))) a_nil))) (a_cons (e_lst (a_cons e_non (a_cons e_int (a_cons e_bl (a_cons (e_lst a_nil) (a_cons (e_lst (a_cons e_str a_nil)) (a_cons (e_tup a_nil) (a_cons (e_new (f_dict (pos := default) pe_dnewK)) (a_cons e_str (a_cons e_str (a_cons e_str (a_cons e_str (a_cons e_str a_nil))))))))))))) a_nil)) (fun h => ps_par (i := 2) (j := 3) (by rfl) sc_law.nd rfl rfl (by decide) rfl rfl h (by rfl)))
 (b_cons (s_for PassesOwn.never rfl (i_range1 (by rfl) T.b_range (a_cons (e_callB (call_max2 rfl) rl_max2 (by rfl) T.b_max (by decide +kernel) (a_cons e_int (a_cons (e_callB (call_min2 rfl) rl_min2 (by rfl) T.b_min (by decide +kernel) (a_cons e_int (a_cons (e_callB call_lenA rl_lenA (by rfl) T.b_len (by decide +kernel) (a_cons (e_var (pv 0) (by decide : ¬ (0 : Nat) ∈ ([1] : List Nat))) a_nil)) a_nil))) a_nil))) a_nil)) (g_tg (t := (.nm 4)) (pg_name (i := 4) sc_law.nd rfl (Or.inl rfl)) (by decide : ∀ j ∈ ([4] : List Nat), ¬ j ∈ ([1] : List Nat)))
 (b_cons (s_set (i := 5) sc_law.nd rfl (Or.inl rfl) (by decide : ¬ (5 : Nat) ∈ ([1] : List Nat)) (e_callO (cg := (cfx T ([0] : List Nat) 3)) (i := 1) (runOk (ok__law_base T) (hr.mono (by decide)) T._law_base.b (fun σ => at00 σ)) F__law_base_len (by decide : 0 ∈ ([0] : List Nat)) (by decide : ∀ i ∈ ([0] : List Nat), i = 0 ∨ 3 ≤ i) (by rfl) T._law_base.mg T._law_base.F.kp (pv 1) (by decide : (1 : Nat) ∈ ([1] : List Nat)) (a_cons (e_ix ix_seq rl_ix (e_lst (a_cons e_int (a_cons e_int (a_cons e_int a_nil)))) (e_callO (cg := (cfx T ([0] : List Nat) 2)) (i := 1) (runOk (ok__law_draw T) (hr.mono (by decide)) T._law_draw.b (fun σ => at00 σ)) F__law_draw_len (by decide : 0 ∈ ([0] : List Nat)) (by decide : ∀ i ∈ ([0] : List Nat), i = 0 ∨ 2 ≤ i) (by rfl) T._law_draw.mg T._law_draw.F.kp (pv 1) (by decide : (1 : Nat) ∈ ([1] : List Nat)) (a_cons e_int a_nil))) (a_cons e_int a_nil))))
 (b_cons (s_set (i := 5) sc_law.nd rfl (Or.inl rfl) (by decide : ¬ (5 : Nat) ∈ ([1] : List Nat)) (e_if (t_cmp op_le rl_le (e_call (cg := (cfx T ([] : List Nat) 1)) (runOk (ok__law_count T) (hr.mono (by decide)) T._law_count.b (fun σ => at00 σ)) F__law_count_len (by decide : ∀ i ∈ ([] : List Nat), 1 ≤ i) (by rfl) T._law_count.mg T._law_count.F.kp (a_cons (e_var (pv 5) (by decide : ¬ (5 : Nat) ∈ ([1] : List Nat))) a_nil)) e_int) (e_var (pv 5) (by decide : ¬ (5 : Nat) ∈ ([1] : List Nat))) (e_slice sl_all rl_slA (e_var (pv 5) (by decide : ¬ (5 : Nat) ∈ ([1] : List Nat))) o_none (o_some e_int))))
 (b_cons (s_set (i := 6) sc_law.nd rfl (Or.inl rfl) (by decide : ¬ (6 : Nat) ∈ ([1] : List Nat)) (e_tup (a_cons (e_var (pv 5) (by decide : ¬ (5 : Nat) ∈ ([1] : List Nat))) (a_cons (e_new (f_lc (own := [("_law_k", 14)]) (t := (.nm 14)) rfl sc_law.nd (i_range1 (by rfl) T.b_range (a_cons (e_call (cg := (cfx T ([] : List Nat) 1)) (runOk (ok__law_count T) (hr.mono (by decide)) T._law_count.b (fun σ => at00 σ)) F__law_count_len (by decide : ∀ i ∈ ([] : List Nat), 1 ≤ i) (by rfl) T._law_count.mg T._law_count.F.kp (a_cons (e_var (pv 5) (by decide : ¬ (5 : Nat) ∈ ([1] : List Nat))) a_nil)) a_nil)) (blkOk_by (own := [("_law_k", 14)]) (N := N_law) (sc := defScope s_law) (by decide +kernel)) (fun _ _ _ _ _ => (pg_name (i := 14) sc_law.nd rfl (Or.inl rfl))) (fun _ _ _ _ _ => ts_nil) (fun _ _ _ _ _ => (e_callO (cg := (cfx T ([0] : List Nat) 1)) (i := 1) (runOk (ok__law_number T) (hr.mono (by decide)) T._law_number.b (fun σ => at00 σ)) F__law_number_len (by decide : 0 ∈ ([0] : List Nat)) (by decide : ∀ i ∈ ([0] : List Nat), i = 0 ∨ 1 ≤ i) (by rfl) T._law_number.mg T._law_number.F.kp (pv 1) (by decide : (1 : Nat) ∈ ([1] : List Nat)) a_nil)) (by decide : ∀ i ∈ ([14] : List Nat), ¬ i ∈ ([1] : List Nat)) (by decide : ∀ i ∈ ([14] : List Nat), i ∈ ([14] : List Nat)))) a_nil))))
 (b_cons (s_if (t_cmp op_lt rl_lt (e_callB call_lenA rl_lenA (by rfl) T.b_len (by decide +kernel) (a_cons (e_ix ix_seq rl_ix (e_var (pv 6) (by decide : ¬ (6 : Nat) ∈ ([1] : List Nat))) e_int) a_nil)) e_int)
 (b_one (s_set (i := 6) sc_law.nd rfl (Or.inl rfl) (by decide : ¬ (6 : Nat) ∈ ([1] : List Nat)) (e_tup (a_cons (e_var (pv 5) (by decide : ¬ (5 : Nat) ∈ ([1] : List Nat))) (a_cons (e_new (f_lc (own := [("_law_cell", 15)]) (t := (.nm 15)) rfl sc_law.nd (i_list (e_ix ix_seq rl_ix (e_var (pv 6) (by decide : ¬ (6 : Nat) ∈ ([1] : List Nat))) e_int)) (blkOk_by (own := [("_law_cell", 15)]) (N := N_law) (sc := defScope s_law) (by decide +kernel)) (fun _ _ _ _ _ => (pg_name (i := 15) sc_law.nd rfl (Or.inl rfl))) (fun _ _ _ _ _ => ts_nil) (fun _ _ _ _ _ => (e_callO (cg := (cfx T ([0] : List Nat) 1)) (i := 1) (runOk (ok__law_great T) (hr.mono (by decide)) T._law_great.b (fun σ => at00 σ)) F__law_great_len (by decide : 0 ∈ ([0] : List Nat)) (by decide : ∀ i ∈ ([0] : List Nat), i = 0 ∨ 1 ≤ i) (by rfl) T._law_great.mg T._law_great.F.kp (pv 1) (by decide : (1 : Nat) ∈ ([1] : List Nat)) a_nil)) (by decide : ∀ i ∈ ([15] : List Nat), ¬ i ∈ ([1] : List Nat)) (by decide : ∀ i ∈ ([15] : List Nat), i ∈ ([15] : List Nat)))) a_nil)))))
 b_nil)
 (b_cons (s_set (i := 7) sc_law.nd rfl (Or.inl rfl) (by decide : ¬ (7 : Nat) ∈ ([1] : List Nat)) (e_call (cg := (cfx T ([] : List Nat) 1)) (runOk (ok__law_array_text T) (hr.mono (by decide)) T._law_array_text.b (fun σ => at00 σ)) F__law_array_text_len (by decide : ∀ i ∈ ([] : List Nat), 1 ≤ i) (by rfl) T._law_array_text.mg T._law_array_text.F.kp (a_cons (e_var (pv 6) (by decide : ¬ (6 : Nat) ∈ ([1] : List Nat))) a_nil)))
 (b_cons (s_set (i := 8) sc_law.nd rfl (Or.inl rfl) (by decide : ¬ (8 : Nat) ∈ ([1] : List Nat)) (e_call (cg := (cfx T ([] : List Nat) 1)) (runOk (ok_read_array T) (hr.mono (by decide)) T.read_array.b (fun σ => atN σ)) F_read_array_len (by decide : ∀ i ∈ ([] : List Nat), 1 ≤ i) (by rfl) T.read_array.mg T.read_array.F.kp (a_cons (e_var (pv 7) (by decide : ¬ (7 : Nat) ∈ ([1] : List Nat))) a_nil)))
 (b_cons (s_if (t_w (w_or (t_cmp (op_neA hr.units) rl_neA (e_callTy (call_strO T.Array___str__.m.at_ T.Array___str__.m.fn (ok_Array___str__ T) T.Array___str__.b (hr.mono (by decide))) (rl_1 (c := 0) (cg := (cfx T ([] : List Nat) 1)) F_Array___str___len (by decide : ∀ i ∈ ([] : List Nat), 1 ≤ i) (fun P Q d v G H q r h => hg_str P Q d v G H q r h)) (by rfl) T.b_str (by decide +kernel) (a_cons (e_var (pv 8) (by decide : ¬ (8 : Nat) ∈ ([1] : List Nat))) a_nil)) (e_var (pv 7) (by decide : ¬ (7 : Nat) ∈ ([1] : List Nat)))) (w_or (t_not (t_truth (e_call (cg := (cfx T ([] : List Nat) 2)) (runG (ok__law_is_board T) (hr.mono (by decide)) gd T._law_is_board.b (fun σ => at00 σ)) F__law_is_board_len (by decide : ∀ i ∈ ([] : List Nat), 2 ≤ i) (by rfl) T._law_is_board.mg T._law_is_board.F.kp (a_cons (e_var (pv 8) (by decide : ¬ (8 : Nat) ∈ ([1] : List Nat))) (a_cons (e_var (pv 6) (by decide : ¬ (6 : Nat) ∈ ([1] : List Nat))) a_nil))))) (w_or1 (t_cmp (op_neA hr.units) rl_neA (e_cmp (op_eqA hr.units) rl_eqA (e_ix ix_seq rl_ix (e_var (pv 2) (by decide : ¬ (2 : Nat) ∈ ([1] : List Nat))) e_int) (e_var (pv 6) (by decide : ¬ (6 : Nat) ∈ ([1] : List Nat)))) (e_cmp (op_eqI (cf := (cfx T ([1] : List Nat) 1)) (c := 0) T.eqk (ok_Array___eq__ T) T.Array___eq__.b (hr.mono (by decide))) (rl_eqI (c := 0) (neg := false) (cg := (cfx T ([] : List Nat) 2)) T.eqk F_Array___eq___len (by decide : ∀ i ∈ ([] : List Nat), 2 ≤ i)) (e_ix ix_seq rl_ix (e_var (pv 2) (by decide : ¬ (2 : Nat) ∈ ([1] : List Nat))) e_int) (e_var (pv 8) (by decide : ¬ (8 : Nat) ∈ ([1] : List Nat)))))))))
 (b_one (s_ret e_bl))
 b_nil)
 (b_cons (s_set (i := 2) sc_law.nd rfl (Or.inl rfl) (by decide : ¬ (2 : Nat) ∈ ([1] : List Nat)) (e_tup (a_cons (e_var (pv 6) (by decide : ¬ (6 : Nat) ∈ ([1] : List Nat))) (a_cons (e_var (pv 8) (by decide : ¬ (8 : Nat) ∈ ([1] : List Nat))) a_nil))))
 (b_cons (s_for PassesOwn.never rfl (i_range1 (by rfl) T.b_range (a_cons (e_callO (cg := (cfx T ([0] : List Nat) 2)) (i := 1) (runOk (ok__law_draw T) (hr.mono (by decide)) T._law_draw.b (fun σ => at00 σ)) F__law_draw_len (by decide : 0 ∈ ([0] : List Nat)) (by decide : ∀ i ∈ ([0] : List Nat), i = 0 ∨ 2 ≤ i) (by rfl) T._law_draw.mg T._law_draw.F.kp (pv 1) (by decide : (1 : Nat) ∈ ([1] : List Nat)) (a_cons e_int a_nil)) a_nil)) (g_tg (t := (.nm 9)) (pg_name (i := 9) sc_law.nd rfl (Or.inl rfl)) (by decide : ∀ j ∈ ([9] : List Nat), ¬ j ∈ ([1] : List Nat)))
 (b_one (s_set (i := 7) sc_law.nd rfl (Or.inl rfl) (by decide : ¬ (7 : Nat) ∈ ([1] : List Nat)) (e_callO (cg := (cfx T ([0] : List Nat) 2)) (i := 1) (runOk (ok__law_spoilt T) (hr.mono (by decide)) T._law_spoilt.b (fun σ => at00 σ)) F__law_spoilt_len (by decide : 0 ∈ ([0] : List Nat)) (by decide : ∀ i ∈ ([0] : List Nat), i = 0 ∨ 2 ≤ i) (by rfl) T._law_spoilt.mg T._law_spoilt.F.kp (pv 1) (by decide : (1 : Nat) ∈ ([1] : List Nat)) (a_cons (e_var (pv 7) (by decide : ¬ (7 : Nat) ∈ ([1] : List Nat))) a_nil)))))
 (b_one (s_for PassesOwn.never rfl (i_list (e_lst (a_cons (e_var (pv 7) (by decide : ¬ (7 : Nat) ∈ ([1] : List Nat))) (a_cons (e_callO (cg := (cfx T ([0] : List Nat) 2)) (i := 1) (runOk (ok__law_of T) (hr.mono (by decide)) T._law_of.b (fun σ => at00 σ)) F__law_of_len (by decide : 0 ∈ ([0] : List Nat)) (by decide : ∀ i ∈ ([0] : List Nat), i = 0 ∨ 2 ≤ i) (by rfl) T._law_of.mg T._law_of.F.kp (pv 1) (by decide : (1 : Nat) ∈ ([1] : List Nat)) (a_cons (e_var (pv 3) (by decide : ¬ (3 : Nat) ∈ ([1] : List Nat))) a_nil)) a_nil)))) (g_tg (t := (.nm 10)) (pg_name (i := 10) sc_law.nd rfl (Or.inl rfl)) (by decide : ∀ j ∈ ([10] : List Nat), ¬ j ∈ ([1] : List Nat)))
 (b_cons (s_set (i := 11) sc_law.nd rfl (Or.inl rfl) (by decide : ¬ (11 : Nat) ∈ ([1] : List Nat)) (e_call (cg := (cfx T ([] : List Nat) 1)) (runOk (ok__law_read T) (hr.mono (by decide)) T._law_read.b (fun σ => at00 σ)) F__law_read_len (by decide : ∀ i ∈ ([] : List Nat), 1 ≤ i) (by rfl) T._law_read.mg T._law_read.F.kp (a_cons (e_var (pv 10) (by decide : ¬ (10 : Nat) ∈ ([1] : List Nat))) a_nil)))
 (b_cons (s_set (i := 12) sc_law.nd rfl (Or.inl rfl) (by decide : ¬ (12 : Nat) ∈ ([1] : List Nat)) (e_tup (a_cons e_str (a_cons (e_callB (call_reprT hg) rl_reprT (by rfl) T.b_repr (by decide +kernel) (a_cons (e_var (pv 10) (by decide : ¬ (10 : Nat) ∈ ([1] : List Nat))) a_nil)) (a_cons e_bl a_nil)))))
 (b_cons (s_if (t_cmp op_notN rl_notN (e_var (pv 11) (by decide : ¬ (11 : Nat) ∈ ([1] : List Nat))) e_non)
 (b_one (s_set (i := 12) sc_law.nd rfl (Or.inl rfl) (by decide : ¬ (12 : Nat) ∈ ([1] : List Nat)) (e_tup (a_cons e_str (a_cons (e_op op_addA rl_addA (e_op op_addA rl_addA (e_op op_addA rl_addA (e_op op_addA rl_addA e_str (e_callB (call_reprW hg) rl_repr (by rfl) T.b_repr (by decide +kernel) (a_cons (e_ix ix_seq rl_ix (e_var (pv 11) (by decide : ¬ (11 : Nat) ∈ ([1] : List Nat))) e_int) a_nil))) e_str) (e_callB (call_reprTB T.lim hg) rl_reprTB (by rfl) T.b_repr (by decide +kernel) (a_cons (e_callTy call_tuple_of rl_tuple (by rfl) T.b_tuple (by decide +kernel) (a_cons (e_ix ix_seq rl_ix (e_var (pv 11) (by decide : ¬ (11 : Nat) ∈ ([1] : List Nat))) e_int) a_nil)) a_nil))) e_str) (a_cons e_bl (a_cons e_bl a_nil)))))))
 b_nil)
 (b_one (s_if (t_cmp (op_neA hr.units) rl_neA (e_call (cg := (cfx T ([] : List Nat) 1)) (runG (ok__law_told T) (hr.mono (by decide)) gd T._law_told.b (fun σ => at00 σ)) F__law_told_len (by decide : ∀ i ∈ ([] : List Nat), 1 ≤ i) (by rfl) T._law_told.mg T._law_told.F.kp (a_cons (e_var (pv 10) (by decide : ¬ (10 : Nat) ∈ ([1] : List Nat))) a_nil)) (e_var (pv 12) (by decide : ¬ (12 : Nat) ∈ ([1] : List Nat))))
 (b_one (s_ret e_bl))
 b_nil)))))))))))))))))
 (b_cons (s_set (i := 13) sc_law.nd rfl (Or.inl rfl) (by decide : ¬ (13 : Nat) ∈ ([1] : List Nat)) (e_new (f_make (cg := (cfx T ([0] : List Nat) 3)) (c := 0) (runMk T.Array.mkk (ok_Array___init__ T) (hr.mono (by decide)) T.Array___init__.b (fun σ => at00 σ)) F_Array___init___len (by decide : 0 ∈ ([0] : List Nat)) (by decide : ∀ i ∈ ([0] : List Nat), i = 0 ∨ 3 ≤ i) rfl (by rfl) T.Array.mg T.Array.mkk.kp (a_cons (e_tup (a_cons e_int (a_cons e_int a_nil))) (a_cons (e_lst (a_cons e_int (a_cons (e_un un_neg rl_neg e_int) a_nil))) a_nil)))))
 (b_one (s_ret (e_and (e_cmp (op_eqI (cf := (cfx T ([1] : List Nat) 1)) (c := 0) T.eqk (ok_Array___eq__ T) T.Array___eq__.b (hr.mono (by decide))) (rl_eqI (c := 0) (neg := false) (cg := (cfx T ([] : List Nat) 2)) T.eqk F_Array___eq___len (by decide : ∀ i ∈ ([] : List Nat), 2 ≤ i)) (e_call (cg := (cfx T ([] : List Nat) 1)) (runOk (ok_read_array T) (hr.mono (by decide)) T.read_array.b (fun σ => atN σ)) F_read_array_len (by decide : ∀ i ∈ ([] : List Nat), 1 ≤ i) (by rfl) T.read_array.mg T.read_array.F.kp (a_cons e_str a_nil)) (e_new (f_make (cg := (cfx T ([0] : List Nat) 3)) (c := 0) (runMk T.Array.mkk (ok_Array___init__ T) (hr.mono (by decide)) T.Array___init__.b (fun σ => at00 σ)) F_Array___init___len (by decide : 0 ∈ ([0] : List Nat)) (by decide : ∀ i ∈ ([0] : List Nat), i = 0 ∨ 3 ≤ i) rfl (by rfl) T.Array.mg T.Array.mkk.kp (a_cons (e_tup (a_cons e_int (a_cons e_int a_nil))) (a_cons (e_tup a_nil) a_nil))))) (e_and (e_cmp (op_eqI (cf := (cfx T ([1] : List Nat) 1)) (c := 0) T.eqk (ok_Array___eq__ T) T.Array___eq__.b (hr.mono (by decide))) (rl_eqI (c := 0) (neg := false) (cg := (cfx T ([] : List Nat) 2)) T.eqk F_Array___eq___len (by decide : ∀ i ∈ ([] : List Nat), 2 ≤ i)) (e_call (cg := (cfx T ([] : List Nat) 1)) (runOk (ok_read_array T) (hr.mono (by decide)) T.read_array.b (fun σ => atN σ)) F_read_array_len (by decide : ∀ i ∈ ([] : List Nat), 1 ≤ i) (by rfl) T.read_array.mg T.read_array.F.kp (a_cons (e_callTy (call_strO T.Array___str__.m.at_ T.Array___str__.m.fn (ok_Array___str__ T) T.Array___str__.b (hr.mono (by decide))) (rl_1 (c := 0) (cg := (cfx T ([] : List Nat) 1)) F_Array___str___len (by decide : ∀ i ∈ ([] : List Nat), 1 ≤ i) (fun P Q d v G H q r h => hg_str P Q d v G H q r h)) (by rfl) T.b_str (by decide +kernel) (a_cons (e_var (pv 13) (by decide : ¬ (13 : Nat) ∈ ([1] : List Nat))) a_nil)) a_nil)) (e_var (pv 13) (by decide : ¬ (13 : Nat) ∈ ([1] : List Nat)))) (e_one (e_cmp (op_eqA hr.units) rl_eqA (e_callTy (call_strO T.Array___str__.m.at_ T.Array___str__.m.fn (ok_Array___str__ T) T.Array___str__.b (hr.mono (by decide))) (rl_1 (c := 0) (cg := (cfx T ([] : List Nat) 1)) F_Array___str___len (by decide : ∀ i ∈ ([] : List Nat), 1 ≤ i) (fun P Q d v G H q r h => hg_str P Q d v G H q r h)) (by rfl) T.b_str (by decide +kernel) (a_cons (e_var (pv 13) (by decide : ¬ (13 : Nat) ∈ ([1] : List Nat))) a_nil)) e_str))))))))))), bodyN F_law_len (fun ds P X h => by
      unfold F_law at h
      split at h
      · exact h
      · exact h.elim) rfl (by decide : ∀ i ∈ ([1] : List Nat), 1 ≤ i) h⟩)
end
end Cr

/-! AlD: draws (shared by the laws over the plain layer). -/
namespace Cr
open PySem PySem.Builtin PySem.Builtin.Str PyProof.Rows L2 Al TL NumText
def FeedOk (k : Nat) (f : D) : Prop := ∃ (ns : List Int) (a l : Int), f = .lst [.lst (ns.map D.int), .int a, .int l] ∧ 0 ≤ a ∧ a ≤ k
theorem FeedOk.up {k j : Nat} {f : D} (h : FeedOk k f) (hj : k ≤ j) : FeedOk j f := by
  obtain ⟨ns, a, l, e, h1, h2⟩ := h
  exact ⟨ns, a, l, e, h1, by omega⟩
theorem at3_0 (x y z : D) : atI [x, y, z] 0 = some x := rfl
theorem at3_1 (x y z : D) : atI [x, y, z] 1 = some y := rfl
theorem at3_2 (x y z : D) : atI [x, y, z] 2 = some z := rfl
theorem ix3_1 (x y z : D) : ixN [x, y, z].length 1 = some 1 := by
  show ixN 3 1 = some 1
  decide
theorem ix3_2 (x y z : D) : ixN [x, y, z].length 2 = some 2 := by
  show ixN 3 2 = some 2
  decide
theorem fmod_rng' (a : Int) {n : Int} (h : 0 < n) : 0 ≤ a.fmod n ∧ a.fmod n < n := ⟨Int.fmod_nonneg_of_pos a h, Int.fmod_lt_of_pos a h⟩
theorem mul_small {i j : Int} (h : -(2 ^ 64) < i ∧ i < 2 ^ 64) : MulOk i j := .inl (.inl h)
theorem mul_small' {i j : Int} (h : -(2 ^ 64) < j ∧ j < 2 ^ 64) : MulOk i j := .inl (.inr h)
theorem draw_ok {k : Nat} {f : D} {n : Int} {P : D → D → Prop} {X : XP} (hf : FeedOk k f) (n0 : 0 < n) (n1 : n < 18446744073709551616) (kb : k < 1073741824) (q : ∀ d f', 0 ≤ d → d < n → FeedOk (k + 1) f' → P (.int d) f') : F__law_draw f [.int n] P X := by
  obtain ⟨ns, a, l, rfl, a0, ak⟩ := hf
  unfold F__law_draw B__law_draw
  have dv : ∀ i : Int, DivOk i n := fun i => .inr ⟨n0, by
    have h1 : n.natAbs < 2 ^ 64 := by omega
    have h2 := (Nat.log2_lt (by omega)).mpr h1
    omega⟩
  have ne : n ≠ 0 := by omega
  have fr : ∀ b : Int, 0 ≤ b → b ≤ k + 1 → ∀ l' : Int, ∀ i : Int, P (.int (i.fmod n)) (.lst [.lst (ns.map D.int), .int b, .int l']) := fun b b0 bk l' i => by
    obtain ⟨d0, d1⟩ := fmod_rng' i n0
    exact q _ _ d0 d1 ⟨ns, b, l', rfl, b0, by omega⟩
  refine seq_k fun K hK => ?_
  simp only [sSeq, sIf, sSet, sRet, sNext, sExpr, sAsg, sPar, sPar3, aB, aO, aU, aV, aC, aF, aIf, aAnd, aOr, aNot, aTAnd, aTOr, aTNot, aTr, aCh, aIs, aCall, aTup, aLst, aCons, aNil, aM1, aSl, pN, pS, withV, vals, sl, List.set_cons_zero, List.set_cons_succ, List.set_nil, Option.map_some, endP, endO, at0s, if_true, if_false, Bool.false_eq_true, isT, tyS, fI, fIC, fLenA, Bool.not_true, Bool.not_false, iS, iL, iT, reduceCtorEq, aIxO, withL, sIxO, at3_2, ix3_2]
  split
  · refine ⟨ne, dv _, ?_⟩
    exact fr a a0 (by omega) _ _
  · rw [hK]
    clear hK
    refine seq_k fun K hK => ?_
    simp only [sSeq, sIf, sSet, sRet, sNext, sExpr, sAsg, sPar, sPar3, aB, aO, aU, aV, aC, aF, aIf, aAnd, aOr, aNot, aTAnd, aTOr, aTNot, aTr, aCh, aIs, aCall, aTup, aLst, aCons, aNil, aM1, aSl, pN, pS, withV, vals, sl, List.set_cons_zero, List.set_cons_succ, List.set_nil, Option.map_some, endP, endO, at0s, if_true, if_false, Bool.false_eq_true, isT, tyS, fI, fIC, fLenA, Bool.not_true, Bool.not_false, iS, iL, iT, reduceCtorEq, aIxO, withL, sIxO, at3_1]
    rw [hK]; clear hK
    refine seq_k fun K hK => ?_
    simp only [sSeq, sIf, sSet, sRet, sNext, sExpr, sAsg, sPar, sPar3, aB, aO, aU, aV, aC, aF, aIf, aAnd, aOr, aNot, aTAnd, aTOr, aTNot, aTr, aCh, aIs, aCall, aTup, aLst, aCons, aNil, aM1, aSl, pN, pS, withV, vals, sl, List.set_cons_zero, List.set_cons_succ, List.set_nil, Option.map_some, endP, endO, at0s, if_true, if_false, Bool.false_eq_true, isT, tyS, fI, fIC, fLenA, Bool.not_true, Bool.not_false, iS, iL, iT, reduceCtorEq, aIxO, withL, sIxO, oAddA, ix3_1]
    rw [hK]; clear hK
    refine seq_k fun K hK => ?_
    simp only [sSeq, sIf, sSet, sRet, sNext, sExpr, sAsg, sPar, sPar3, aB, aO, aU, aV, aC, aF, aIf, aAnd, aOr, aNot, aTAnd, aTOr, aTNot, aTr, aCh, aIs, aCall, aTup, aLst, aCons, aNil, aM1, aSl, pN, pS, withV, vals, sl, List.set_cons_zero, List.set_cons_succ, List.set_nil, Option.map_some, endP, endO, at0s, if_true, if_false, Bool.false_eq_true, isT, tyS, fI, fIC, fLenA, Bool.not_true, Bool.not_false, iS, iL, iT, reduceCtorEq, oAddA, oMulA]
    refine ⟨mul_small ⟨by omega, by omega⟩, ?_⟩
    rw [hK]; clear hK
    refine seq_k fun K hK => ?_
    have key : ∀ cell : Int, K [some (.lst [.lst (ns.map D.int), .int (a + 1), .int l]), some (.int n), none, some (.int a), some (.int cell), none, none] := fun cell => by
      rw [hK]; clear hK
      refine seq_k fun K hK => ?_
      have k2 : K [some (.lst [.lst (ns.map D.int), .int (a + 1), .int l]), some (.int n), none, some (.int a), some (.int cell), none, none] := by
        rw [hK]; clear hK
        refine seq_k fun K hK => ?_
        simp only [sSeq, sIf, sSet, sRet, sNext, sExpr, sAsg, sPar, sPar3, aB, aO, aU, aV, aC, aF, aIf, aAnd, aOr, aNot, aTAnd, aTOr, aTNot, aTr, aCh, aIs, aCall, aTup, aLst, aCons, aNil, aM1, aSl, pN, pS, withV, vals, sl, List.set_cons_zero, List.set_cons_succ, List.set_nil, Option.map_some, endP, endO, at0s, if_true, if_false, Bool.false_eq_true, isT, tyS, fI, fIC, fLenA, Bool.not_true, Bool.not_false, iS, iL, iT, reduceCtorEq, oAddA, oMulA]
        refine ⟨by decide, mul_small ⟨by decide, by decide⟩, mul_small' ⟨by decide, by decide⟩, by decide, ?_⟩
        rw [hK]; clear hK
        refine seq_k fun K hK => ?_
        simp only [sFor]
        simp only [sSeq, sIf, sSet, sRet, sNext, sExpr, sAsg, sPar, sPar3, aB, aO, aU, aV, aC, aF, aIf, aAnd, aOr, aNot, aTAnd, aTOr, aTNot, aTr, aCh, aIs, aCall, aTup, aLst, aCons, aNil, aM1, aSl, pN, pS, withV, vals, sl, List.set_cons_zero, List.set_cons_succ, List.set_nil, Option.map_some, endP, endO, at0s, if_true, if_false, Bool.false_eq_true, isT, tyS, fI, fIC, fLenA, Bool.not_true, Bool.not_false, iS, iL, iT, reduceCtorEq, iR1, rng]
        refine ⟨⟨by decide, by decide⟩, ?_⟩
        refine for_inv (fun _ ρ => ∃ (v : Int) (w : Option D), ρ = [some (.lst [.lst (ns.map D.int), .int (a + 1), .int l]), some (.int n), none, some (.int a), some (.int cell), some (.int v), w] ∧ -(2 ^ 64) < v ∧ v < 2 ^ 64) _ 0 _ ⟨_, _, rfl, ?_, ?_⟩ ?_ ?_
        · have := (fmod_rng' ((cell.fmod 4294967311 + 65539 * a + 17) * 48271) (n := 4294967311) (by decide)).1; omega
        · have := (fmod_rng' ((cell.fmod 4294967311 + 65539 * a + 17) * 48271) (n := 4294967311) (by decide)).2; omega
        · rintro d m ρ Kn hd ⟨v, w, rfl, v0, v1⟩ hn
          obtain ⟨i, rfl, _, _⟩ := rng_mem hd
          simp only [Tg.a, gV]
          simp only [sSeq, sIf, sSet, sRet, sNext, sExpr, sAsg, sPar, sPar3, aB, aO, aU, aV, aC, aF, aIf, aAnd, aOr, aNot, aTAnd, aTOr, aTNot, aTr, aCh, aIs, aCall, aTup, aLst, aCons, aNil, aM1, aSl, pN, pS, withV, vals, sl, List.set_cons_zero, List.set_cons_succ, List.set_nil, Option.map_some, endP, endO, at0s, if_true, if_false, Bool.false_eq_true, isT, tyS, fI, fIC, fLenA, Bool.not_true, Bool.not_false, iS, iL, iT, reduceCtorEq, oAddA, oMulA]
          refine ⟨mul_small ⟨by omega, by omega⟩, mul_small ⟨by decide, by decide⟩, by decide, hn _ ⟨_, _, rfl, ?_, ?_⟩⟩
          · refine Int.lt_of_lt_of_le ?_ (fmod_rng' _ (by decide)).1
            decide
          · refine Int.lt_of_lt_of_le (fmod_rng' _ (by decide)).2 ?_
            decide
        · rintro ρ ⟨v, w, rfl, _, _⟩
          show K _
          rw [hK]
          simp only [sSeq, sIf, sSet, sRet, sNext, sExpr, sAsg, sPar, sPar3, aB, aO, aU, aV, aC, aF, aIf, aAnd, aOr, aNot, aTAnd, aTOr, aTNot, aTr, aCh, aIs, aCall, aTup, aLst, aCons, aNil, aM1, aSl, pN, pS, withV, vals, sl, List.set_cons_zero, List.set_cons_succ, List.set_nil, Option.map_some, endP, endO, at0s, if_true, if_false, Bool.false_eq_true, isT, tyS, fI, fIC, fLenA, Bool.not_true, Bool.not_false, iS, iL, iT, reduceCtorEq]
          refine ⟨.inl ⟨by decide, by decide⟩, ne, ?_⟩
          exact fr (a + 1) (by omega) (by omega) _ _
      simp only [sSeq, sIf, sSet, sRet, sNext, sExpr, sAsg, sPar, sPar3, aB, aO, aU, aV, aC, aF, aIf, aAnd, aOr, aNot, aTAnd, aTOr, aTNot, aTr, aCh, aIs, aCall, aTup, aLst, aCons, aNil, aM1, aSl, pN, pS, withV, vals, sl, List.set_cons_zero, List.set_cons_succ, List.set_nil, Option.map_some, endP, endO, at0s, if_true, if_false, Bool.false_eq_true, isT, tyS, fI, fIC, fLenA, Bool.not_true, Bool.not_false, iS, iL, iT, reduceCtorEq, aIxO, withL, sIxO, at3_0, at3_1, ix3_2, fAbs, List.length_map]
      split
      · refine ⟨⟨by decide, by decide, by decide⟩, ?_⟩
        generalize (if cell < 0 then -cell else cell) = ac
        split
        · refine ⟨dv _, ne, ?_⟩
          exact fr (a + 1) (by omega) (by omega) _ _
        · exact k2
      · exact k2
    simp only [sSeq, sIf, sSet, sRet, sNext, sExpr, sAsg, sPar, sPar3, aB, aO, aU, aV, aC, aF, aIf, aAnd, aOr, aNot, aTAnd, aTOr, aTNot, aTr, aCh, aIs, aCall, aTup, aLst, aCons, aNil, aM1, aSl, pN, pS, withV, vals, sl, List.set_cons_zero, List.set_cons_succ, List.set_nil, Option.map_some, endP, endO, at0s, if_true, if_false, Bool.false_eq_true, isT, tyS, fI, fIC, fLenA, Bool.not_true, Bool.not_false, iS, iL, iT, reduceCtorEq, aIxO, withL, sIxO, at3_0, oNeA, eqS, Nat.zero_le, true_and, List.length_nil]
    rw [List.length_map]
    split
    · next hn =>
      have hpos : 0 < ns.length := by
        cases ns with
        | nil => exact absurd hn (by decide)
        | cons _ _ => exact Nat.succ_pos _
      refine ⟨by omega, ?_⟩
      obtain ⟨j0, j1⟩ := fmod_rng' a (n := (ns.length : Int)) (by omega)
      obtain ⟨x, e, hx⟩ := atI_in (l := ns.map D.int) j0 (by rw [List.length_map]; exact j1)
      rw [List.mem_map] at hx
      obtain ⟨c, _, rfl⟩ := hx
      simp only [sSeq, sIf, sSet, sRet, sNext, sExpr, sAsg, sPar, sPar3, aB, aO, aU, aV, aC, aF, aIf, aAnd, aOr, aNot, aTAnd, aTOr, aTNot, aTr, aCh, aIs, aCall, aTup, aLst, aCons, aNil, aM1, aSl, pN, pS, withV, vals, sl, List.set_cons_zero, List.set_cons_succ, List.set_nil, Option.map_some, endP, endO, at0s, if_true, if_false, Bool.false_eq_true, isT, tyS, fI, fIC, fLenA, Bool.not_true, Bool.not_false, iS, iL, iT, reduceCtorEq, oIx, oIxL, e]
      exact key c
    · exact key _
/-- one of several -/
theorem of_ok {k : Nat} {f : D} {ds : List D} {P : D → D → Prop} {X : XP} (hf : FeedOk k f) (n0 : 0 < ds.length) (n1 : ds.length < 1073741824) (kb : k < 1073741824) (q : ∀ d ∈ ds, ∀ f', FeedOk (k + 1) f' → P d f') : F__law_of f [.lst ds] P X := by
  unfold F__law_of B__law_of
  simp only [sSeq, sIf, sSet, sRet, sNext, sExpr, sAsg, sPar, sPar3, aB, aO, aU, aV, aC, aF, aIf, aAnd, aOr, aNot, aTAnd, aTOr, aTNot, aTr, aCh, aIs, aCall, aTup, aLst, aCons, aNil, aM1, aSl, pN, pS, withV, vals, sl, List.set_cons_zero, List.set_cons_succ, List.set_nil, Option.map_some, endP, endO, at0s, if_true, if_false, Bool.false_eq_true, isT, tyS, fI, fIC, fLenA, Bool.not_true, Bool.not_false, iS, iL, iT, reduceCtorEq, aCallO]
  refine draw_ok hf (by omega) (by omega) kb fun d f' d0 d1 hf' => ?_
  obtain ⟨x, e, hx⟩ := atI_in d0 d1
  simp only [sSeq, sIf, sSet, sRet, sNext, sExpr, sAsg, sPar, sPar3, aB, aO, aU, aV, aC, aF, aIf, aAnd, aOr, aNot, aTAnd, aTOr, aTNot, aTr, aCh, aIs, aCall, aTup, aLst, aCons, aNil, aM1, aSl, pN, pS, withV, vals, sl, List.set_cons_zero, List.set_cons_succ, List.set_nil, Option.map_some, endP, endO, at0s, if_true, if_false, Bool.false_eq_true, isT, tyS, fI, fIC, fLenA, Bool.not_true, Bool.not_false, iS, iL, iT, reduceCtorEq, oIx, oIxL, e]
  exact q x hx f' hf'
theorem feed_ok {ns : List Int} {P : D → Prop} {X : XP} (q : ∀ f, FeedOk 0 f → P f) : F__law_feed [.scr ns] P X := by
  unfold F__law_feed B__law_feed
  simp only [sSeq, sIf, sSet, sRet, sNext, sExpr, sAsg, sPar, sPar3, aB, aO, aU, aV, aC, aF, aIf, aAnd, aOr, aNot, aTAnd, aTOr, aTNot, aTr, aCh, aIs, aCall, aTup, aLst, aCons, aNil, aM1, aSl, pN, pS, withV, vals, sl, List.set_cons_zero, List.set_cons_succ, List.set_nil, Option.map_some, endP, endO, at0s, if_true, if_false, Bool.false_eq_true, isT, tyS, fI, fIC, fLenA, Bool.not_true, Bool.not_false, iS, iL, iT, reduceCtorEq, slA, slL, fList, List.length_cons, List.length_nil]
  refine ⟨by decide, q _ ⟨ns.take 63, 0, 0, ?_, by omega, by omega⟩⟩
  have := cutD_head (ns.map D.int) 63
  rw [show ((63 : Nat) : Int) = 63 from rfl] at this
  rw [this, List.map_take]
end Cr

namespace Cr
open PySem PySem.Builtin PySem.Builtin.Str PyProof.Rows L2 Al TL NumText
local macro_rules
  | `(tactic| fail $s:str) => match s.getString with
    | "stp0" => `(tactic| first | fail "stp0_0" | fail "stp0_1" | fail "stp0_2" | fail "stp0_3" | fail "stp0_4" | fail "stp0_5" | fail "stp0_6" | fail "stp0_7" | fail "stp0_8" | fail "stp0_9" | fail "stp0_10" | fail "stp0_11")
    | "stp0_0" => `(tactic| first | (with_reducible apply Al.stO) | (with_reducible apply Al.stC) | (with_reducible apply Al.stNil) | (with_reducible apply Al.stCons) | (with_reducible apply Al.stW0) | (with_reducible apply Al.stW1) | (with_reducible apply Al.stW2) | (with_reducible apply Al.stW3))
    | "stp0_1" => `(tactic| first | (with_reducible apply Al.stW4) | (with_reducible apply Al.stW5) | (with_reducible apply Al.stW6) | (with_reducible apply Al.stTup) | (with_reducible apply Al.stLst) | (with_reducible apply Al.stF) | (with_reducible apply Al.stCall) | (with_reducible apply Al.stCallD))
    | "stp0_2" => `(tactic| first | (with_reducible apply Al.stU) | (with_reducible apply Al.stSl) | (with_reducible apply Al.stpN) | (with_reducible apply Al.stpS) | (with_reducible apply Al.onInt_i) | (with_reducible apply Al.onBl_i) | (with_reducible apply Al.onLst_i) | (with_reducible apply Al.onTup_i))
    | "stp0_3" => `(tactic| first | (with_reducible apply Al.onStr_i) | (with_reducible apply Al.onInt1_i) | (with_reducible apply Al.on2_i) | (with_reducible apply Al.stB) | (with_reducible apply Al.stTr) | (with_reducible apply Al.stTOr) | (with_reducible apply Al.stTAnd) | (with_reducible apply Al.stTNot))
    | "stp0_4" => `(tactic| first | (with_reducible apply Al.stAnd) | (with_reducible apply Al.stOr) | (with_reducible apply Al.stNot) | (with_reducible apply Al.stIfE) | (with_reducible apply Al.stIs) | (with_reducible apply Al.stM1) | (with_reducible apply Al.stiL) | (with_reducible apply Al.stiT))
    | "stp0_5" => `(tactic| first | (with_reducible apply Al.stiR1) | (with_reducible apply Al.if_t) | (with_reducible apply Al.if_f) | (with_reducible apply Al.if_tn) | (with_reducible apply Al.if_fn) | (with_reducible apply Al.if_T) | (with_reducible apply Al.stSet) | (with_reducible apply Al.stExpr))
    | "stp0_6" => `(tactic| first | (with_reducible apply Al.stNext) | (with_reducible apply Al.stAsg) | (with_reducible apply Al.stIf) | (with_reducible apply Al.stFor) | (with_reducible apply Al.stPar) | (with_reducible apply Al.stRetO) | (with_reducible apply Al.stRetP) | (with_reducible apply Al.stRetMO))
    | "stp0_7" => `(tactic| first | (with_reducible apply Al.stRetMP) | (with_reducible apply Al.opI) | (with_reducible apply Al.opIC) | (with_reducible apply Al.opAddI) | (with_reducible apply Al.opAddS) | (with_reducible apply Al.opAddT) | (with_reducible apply Al.opAddL) | (with_reducible apply Al.opMulI))
    | "stp0_8" => `(tactic| first | (with_reducible apply Al.opEqI) | (with_reducible apply Al.opEqS) | (with_reducible apply Al.opEqE) | (with_reducible apply Al.opNeI) | (with_reducible apply Al.opNeS) | (with_reducible apply Al.opNeE) | (with_reducible apply Al.opEqT) | (with_reducible apply Al.opNeT))
    | "stp0_9" => `(tactic| first | (with_reducible apply Al.opNeg) | (with_reducible apply Al.opIxL) | (with_reducible apply Al.opIxT) | (with_reducible apply Al.opSlT) | (with_reducible apply Al.opSlL) | (with_reducible apply Al.opSlS) | (with_reducible apply Al.opLenL) | (with_reducible apply Al.opLenT))
    | "stp0_10" => `(tactic| first | (with_reducible apply Al.opLenC) | (with_reducible apply Al.opLenS) | (with_reducible apply Al.opStrI) | (with_reducible apply Al.opStrS) | (with_reducible apply Al.opTupL) | (with_reducible apply Al.opLstT) | ((with_reducible apply Al.stV); exact rfl) | ((with_reducible apply Al.stM); exact rfl))
    | "stp0_11" => `(tactic| first | ((with_reducible apply Al.stCallO); exact rfl) | ((with_reducible apply Al.onSome_i (a := true)); exact rfl) | ((with_reducible apply Al.onSome_i (a := false)); exact rfl) | ((with_reducible apply Al.onSome_i); exact rfl) | ((with_reducible apply Al.at0_i); exact rfl))
    | _ => Lean.Macro.throwUnsupported
abbrev ti (s : List Int) : D := .tup (s.map D.int)
abbrev li (s : List Int) : D := .lst (s.map D.int)
abbrev bd (s c : List Int) : D := .tup [ti s, li c]
/-! ### how many cells -/
def prd (s : List Int) : Int := s.foldl (· * ·) 1
/-- sizes: from 0 to 4000 -/
def Sz (s : List Int) : Prop := ∀ x ∈ s, 0 ≤ x ∧ x ≤ 4000
theorem bd_log {i : Int} {n : Nat} (n0 : 0 < n) (h : i.natAbs < 2 ^ n) : i.natAbs.log2 < n := by
  by_cases c : i.natAbs = 0
  · rw [c]; exact Nat.lt_of_le_of_lt (Nat.le_of_eq (by decide)) n0
  · exact (Nat.log2_lt c).mpr h
theorem mulW_small {i j : Int} (h : -(2 ^ 64) < j ∧ j < 2 ^ 64) (h' : -(2 ^ 64) < i ∧ i < 2 ^ 64) : CMulW i j := by
  unfold CMulW
  have := bd_log (n := 64) (by decide) (i := i) (by omega)
  have := bd_log (n := 64) (by decide) (i := j) (by omega)
  omega
theorem pw20 {n : Nat} (h : n ≤ 5) : (4000 : Int) ^ n ≤ 1024000000000000000 := by
  have : n = 0 ∨ n = 1 ∨ n = 2 ∨ n = 3 ∨ n = 4 ∨ n = 5 := by omega
  rcases this with rfl | rfl | rfl | rfl | rfl | rfl <;> decide
theorem mul_bd {a b : Int} {n : Nat} (a0 : 0 ≤ a) (a1 : a ≤ (4000 : Int) ^ n) (b0 : 0 ≤ b) (b1 : b ≤ 4000) : 0 ≤ a * b ∧ a * b ≤ (4000 : Int) ^ (n + 1) := by
  refine ⟨Int.mul_nonneg a0 b0, ?_⟩
  rw [Int.pow_succ]
  exact Int.mul_le_mul a1 b1 b0 (Int.le_trans a0 a1)
theorem count_go : ∀ (s : List Int) (a : Int) (n : Nat) (x0 : Option D) (P : D → Prop) (X : XP) (d0 : D), Sz s → 0 ≤ a → a ≤ (4000 : Int) ^ n → n + s.length ≤ 6 →
    (∀ _ : Unit, P (.int (s.foldl (· * ·) a))) → forGo (Tg.a (.nm 2)) (sAug 1 oMulW (aV 2)) { endP P X with nx := sRet (aV 1) (endP P X) } (s.map D.int) [some d0, some (.int a), x0]
  | [], a, n, x0, P, X, d0, _, _, _, _, q => q ()
  | x :: s, a, n, x0, P, X, d0, hs, h0, h1, hl, q => by
    obtain ⟨b0, b1⟩ := hs x (by simp)
    obtain ⟨m0, m1⟩ := mul_bd h0 h1 b0 b1
    rw [List.length_cons] at hl
    have p1 := pw20 (n := n) (by omega)
    refine ⟨mulW_small ⟨by omega, by omega⟩ ⟨by omega, by omega⟩, ?_⟩
    exact count_go s (a * x) (n + 1) _ P X d0 (fun y hy => hs y (by simp [hy])) m0 m1 (by omega) q
theorem count_ok {s : List Int} {P : D → Prop} {X : XP} (hs : Sz s) (hl : s.length ≤ 6) (q : P (.int (prd s))) : F_count [.tup (s.map D.int)] P X :=
  count_go s 1 0 none P NX _ hs (by decide) (by decide) (by omega) fun _ => q
theorem lcount_go : ∀ (s : List Int) (a : Int) (n : Nat) (x0 : Option D) (P : D → Prop) (X : XP) (d0 : D), Sz s → 0 ≤ a → a ≤ (4000 : Int) ^ n → n + s.length ≤ 6 →
    (∀ _ : Unit, P (.int (s.foldl (· * ·) a))) → forGo (Tg.a (.nm 2)) (sSet 1 (aO oMulA (aV 1) (aV 2))) { endP P X with nx := sRet (aV 1) (endP P X) } (s.map D.int) [some d0, some (.int a), x0]
  | [], a, n, x0, P, X, d0, _, _, _, _, q => q ()
  | x :: s, a, n, x0, P, X, d0, hs, h0, h1, hl, q => by
    obtain ⟨b0, b1⟩ := hs x (by simp)
    obtain ⟨m0, m1⟩ := mul_bd h0 h1 b0 b1
    rw [List.length_cons] at hl
    have p1 := pw20 (n := n) (by omega)
    refine ⟨mul_small' ⟨by omega, by omega⟩, ?_⟩
    exact lcount_go s (a * x) (n + 1) _ P X d0 (fun y hy => hs y (by simp [hy])) m0 m1 (by omega) q
theorem lcount_ok {s : List Int} {P : D → Prop} {X : XP} (hs : Sz s) (hl : s.length ≤ 6) (q : P (.int (prd s))) : F__law_count [.tup (s.map D.int)] P X :=
  Or.inr (lcount_go s 1 0 none P NX _ hs (by decide) (by decide) (by omega) fun _ => q)
theorem lcount_okL {s : List Int} {P : D → Prop} {X : XP} (hs : Sz s) (hl : s.length ≤ 6) (q : P (.int (prd s))) : F__law_count [.lst (s.map D.int)] P X :=
  Or.inl (lcount_go s 1 0 none P NX _ hs (by decide) (by decide) (by omega) fun _ => q)
theorem at_cons1 {α : Type} (x y : α) : atI [x, y] 1 = some y := rfl
theorem number_ok {k : Nat} {f : D} {P : D → D → Prop} {X : XP} (hf : FeedOk k f) (kb : k < 1073741800) (q : ∀ i f', -(10 ^ 30) < i → i < 10 ^ 30 → FeedOk (k + 4) f' → P (.int i) f') : F__law_number f [] P X := by
  unfold F__law_number B__law_number
  refine seq_k fun K hK => ?_
  simp only [sSeq, sIf, sSet, sRet, sNext, sExpr, sAsg, sPar, sPar3, aB, aO, aU, aV, aC, aF, aIf, aAnd, aOr, aNot, aTAnd, aTOr, aTNot, aTr, aCh, aIs, aCall, aTup, aLst, aCons, aNil, aM1, aSl, pN, pS, withV, vals, sl, List.set_cons_zero, List.set_cons_succ, List.set_nil, Option.map_some, endP, endO, at0s, if_true, if_false, Bool.false_eq_true, isT, tyS, fI, fIC, fLenA, Bool.not_true, Bool.not_false, iS, iL, iT, reduceCtorEq, aCallO]
  refine draw_ok hf (by decide) (by decide) (by omega) fun d1 f1 a1 b1 hf1 => ?_
  try simp only [sSeq, sIf, sSet, sRet, sNext, sExpr, sAsg, sPar, sPar3, aB, aO, aU, aV, aC, aF, aIf, aAnd, aOr, aNot, aTAnd, aTOr, aTNot, aTr, aCh, aIs, aCall, aTup, aLst, aCons, aNil, aM1, aSl, pN, pS, withV, vals, sl, List.set_cons_zero, List.set_cons_succ, List.set_nil, Option.map_some, endP, endO, at0s, if_true, if_false, Bool.false_eq_true, isT, tyS, fI, fIC, fLenA, Bool.not_true, Bool.not_false, iS, iL, iT, reduceCtorEq]
  rw [hK]; clear hK
  refine seq_k fun K hK => ?_
  simp only [sSeq, sIf, sSet, sRet, sNext, sExpr, sAsg, sPar, sPar3, aB, aO, aU, aV, aC, aF, aIf, aAnd, aOr, aNot, aTAnd, aTOr, aTNot, aTr, aCh, aIs, aCall, aTup, aLst, aCons, aNil, aM1, aSl, pN, pS, withV, vals, sl, List.set_cons_zero, List.set_cons_succ, List.set_nil, Option.map_some, endP, endO, at0s, if_true, if_false, Bool.false_eq_true, isT, tyS, fI, fIC, fLenA, Bool.not_true, Bool.not_false, iS, iL, iT, reduceCtorEq, aCallO]
  by_cases c1 : d1 < 6
  · rw [decide_eq_true c1, if_pos rfl]
    refine draw_ok hf1 (by decide) (by decide) (by omega) fun d2 f2 a2 b2 hf2 => ?_
    try simp only [sSeq, sIf, sSet, sRet, sNext, sExpr, sAsg, sPar, sPar3, aB, aO, aU, aV, aC, aF, aIf, aAnd, aOr, aNot, aTAnd, aTOr, aTNot, aTr, aCh, aIs, aCall, aTup, aLst, aCons, aNil, aM1, aSl, pN, pS, withV, vals, sl, List.set_cons_zero, List.set_cons_succ, List.set_nil, Option.map_some, endP, endO, at0s, if_true, if_false, Bool.false_eq_true, isT, tyS, fI, fIC, fLenA, Bool.not_true, Bool.not_false, iS, iL, iT, reduceCtorEq]
    exact q _ _ (by omega) (by omega) (hf2.up (by omega))
  rw [decide_eq_false c1, if_neg (by decide), hK]; clear hK
  refine seq_k fun K hK => ?_
  simp only [sSeq, sIf, sSet, sRet, sNext, sExpr, sAsg, sPar, sPar3, aB, aO, aU, aV, aC, aF, aIf, aAnd, aOr, aNot, aTAnd, aTOr, aTNot, aTr, aCh, aIs, aCall, aTup, aLst, aCons, aNil, aM1, aSl, pN, pS, withV, vals, sl, List.set_cons_zero, List.set_cons_succ, List.set_nil, Option.map_some, endP, endO, at0s, if_true, if_false, Bool.false_eq_true, isT, tyS, fI, fIC, fLenA, Bool.not_true, Bool.not_false, iS, iL, iT, reduceCtorEq, aCallO]
  by_cases c2 : d1 < 8
  · rw [decide_eq_true c2, if_pos rfl]
    simp only [oNeg, List.length_cons, List.length_nil]
    refine ⟨by decide, ?_⟩
    refine of_ok hf1 (Nat.succ_pos _) (by simp only [List.length_cons, List.length_nil]; omega) (by omega) fun w hw f2 hf2 => ?_
    simp only [List.mem_cons, List.not_mem_nil, or_false] at hw
    rcases hw with rfl | rfl | rfl | rfl | rfl | rfl | rfl <;> exact q _ _ (by omega) (by omega) (hf2.up (by omega))
  rw [decide_eq_false c2, if_neg (by decide), hK]; clear hK
  simp only [sSeq, sIf, sSet, sRet, sNext, sExpr, sAsg, sPar, sPar3, aB, aO, aU, aV, aC, aF, aIf, aAnd, aOr, aNot, aTAnd, aTOr, aTNot, aTr, aCh, aIs, aCall, aTup, aLst, aCons, aNil, aM1, aSl, pN, pS, withV, vals, sl, List.set_cons_zero, List.set_cons_succ, List.set_nil, Option.map_some, endP, endO, at0s, if_true, if_false, Bool.false_eq_true, isT, tyS, fI, fIC, fLenA, Bool.not_true, Bool.not_false, iS, iL, iT, reduceCtorEq, aCallO, oPow, CPow, oMulA, oAddA]
  refine ⟨⟨by decide, by decide, by decide⟩, ?_⟩
  refine draw_ok hf1 (by decide) (by decide) (by omega) fun d2 f2 a2 b2 hf2 => ?_
  simp only [sSeq, sIf, sSet, sRet, sNext, sExpr, sAsg, sPar, sPar3, aB, aO, aU, aV, aC, aF, aIf, aAnd, aOr, aNot, aTAnd, aTOr, aTNot, aTr, aCh, aIs, aCall, aTup, aLst, aCons, aNil, aM1, aSl, pN, pS, withV, vals, sl, List.set_cons_zero, List.set_cons_succ, List.set_nil, Option.map_some, endP, endO, at0s, if_true, if_false, Bool.false_eq_true, isT, tyS, fI, fIC, fLenA, Bool.not_true, Bool.not_false, iS, iL, iT, reduceCtorEq, aCallO, oPow, CPow, oMulA, oAddA]
  refine ⟨⟨by decide, by decide, by decide⟩, mul_small' ⟨by decide, by decide⟩, ⟨by decide, by decide, by decide⟩, ?_⟩
  refine draw_ok hf2 (by decide) (by decide) (by omega) fun d3 f3 a3 b3 hf3 => ?_
  simp only [sSeq, sIf, sSet, sRet, sNext, sExpr, sAsg, sPar, sPar3, aB, aO, aU, aV, aC, aF, aIf, aAnd, aOr, aNot, aTAnd, aTOr, aTNot, aTr, aCh, aIs, aCall, aTup, aLst, aCons, aNil, aM1, aSl, pN, pS, withV, vals, sl, List.set_cons_zero, List.set_cons_succ, List.set_nil, Option.map_some, endP, endO, at0s, if_true, if_false, Bool.false_eq_true, isT, tyS, fI, fIC, fLenA, Bool.not_true, Bool.not_false, iS, iL, iT, reduceCtorEq, aCallO, oPow, CPow, oMulA, oAddA, oNeg, List.length_cons, List.length_nil]
  refine ⟨by decide, ?_⟩
  refine draw_ok hf3 (by decide) (by decide) (by omega) fun d4 f4 a4 b4 hf4 => ?_
  have e2 : d2 < 1000000000000000 := b2
  have e3 : d3 < 1000000000000000 := b3
  rcases (show d4 = 0 ∨ d4 = 1 by omega) with rfl | rfl
  · simp only [sSeq, sIf, sSet, sRet, sNext, sExpr, sAsg, sPar, sPar3, aB, aO, aU, aV, aC, aF, aIf, aAnd, aOr, aNot, aTAnd, aTOr, aTNot, aTr, aCh, aIs, aCall, aTup, aLst, aCons, aNil, aM1, aSl, pN, pS, withV, vals, sl, List.set_cons_zero, List.set_cons_succ, List.set_nil, Option.map_some, endP, endO, at0s, if_true, if_false, Bool.false_eq_true, isT, tyS, fI, fIC, fLenA, Bool.not_true, Bool.not_false, iS, iL, iT, reduceCtorEq, oIx, oIxL, atI0, List.head?_cons]
    refine ⟨mul_small' ⟨by decide, by decide⟩, q _ _ ?_ ?_ (hf4.up (by omega))⟩ <;> (simp only [Int.toNat]; omega)
  · simp only [sSeq, sIf, sSet, sRet, sNext, sExpr, sAsg, sPar, sPar3, aB, aO, aU, aV, aC, aF, aIf, aAnd, aOr, aNot, aTAnd, aTOr, aTNot, aTr, aCh, aIs, aCall, aTup, aLst, aCons, aNil, aM1, aSl, pN, pS, withV, vals, sl, List.set_cons_zero, List.set_cons_succ, List.set_nil, Option.map_some, endP, endO, at0s, if_true, if_false, Bool.false_eq_true, isT, tyS, fI, fIC, fLenA, Bool.not_true, Bool.not_false, iS, iL, iT, reduceCtorEq, oIx, oIxL, at_cons1]
    refine ⟨mul_small' ⟨by decide, by decide⟩, q _ _ ?_ ?_ (hf4.up (by omega))⟩ <;> (simp only [Int.toNat]; omega)

theorem lc_invB {te : AE} {vs : List Nat} {g : AG} (I : List D → Ev → Prop) : ∀ (ds : List D) (pre : List D) (ρ : Ev) (P : List D → Ev → Prop), I pre ρ →
    (∀ d ∈ ds, ∀ es ρ, es.length < pre.length + ds.length → I es ρ → ∀ Q : D → Ev → Prop, (∀ e ρ3, I (es ++ [e]) ρ3 → Q e ρ3) → g d (wipeD ρ vs) fun ρ1 => te ρ1 Q NX) →
    (∀ es ρ, es.length = ds.length → I (pre ++ es) ρ → P es ρ) → lcGo g tY te vs ds ρ P
  | [], pre, ρ, P, hI, _, h => h [] ρ rfl (by rwa [List.append_nil])
  | d :: ds, pre, ρ, P, hI, st, h => by
    unfold lcGo
    refine st d (by simp) pre ρ (by simp) hI _ fun e ρ3 h3 => ?_
    refine lc_invB I ds (pre ++ [e]) ρ3 _ h3 (fun d' h' es ρ hl => st d' (by simp [h']) es ρ (by simp only [List.length_append, List.length_cons, List.length_nil] at hl ⊢; omega)) fun es ρ4 hl hI4 => ?_
    exact h (e :: es) ρ4 (by simp [hl]) (by rw [List.append_assoc] at hI4; exact hI4)
def S4 (s : List Int) : Prop := ∀ x ∈ s, 0 ≤ x ∧ x ≤ 4
def S3 (s : List Int) : Prop := ∀ x ∈ s, 0 ≤ x ∧ x ≤ 3
theorem S3.s4 {s : List Int} (h : S3 s) : S4 s := fun x hx => ⟨(h x hx).1, by have := (h x hx).2; omega⟩
theorem base_ok {k : Nat} {f : D} {a : Nat} {P : D → D → Prop} {X : XP} (hf : FeedOk k f) (ha : a ≤ 6) (kb : k < 1073741700) (q : ∀ s f', S3 s → s.length ≤ a → FeedOk (k + 20) f' → P (ti s) f') : F__law_base f [.int a, .int 4] P X := by
  have sz : (1000000 : Nat) < sizeLine := by decide
  have kd := @draw_ok
  have ko := @of_ok
  unfold F__law_base B__law_base
  generalize F__law_draw = F1 at kd ⊢
  generalize F__law_of = F2 at ko ⊢
  simp only [sRet, aF, aLc, iR1, aCons, aNil, aCallO, aC, aV, aO, oAddA, withV, vals, Option.map_some, sl]
  refine kd hf (by omega) (by omega) (by omega) fun d2 f2 a2 b2 hf2 => ?_
  simp only [List.set_cons_zero, List.set_cons_succ]
  refine ⟨⟨by omega, by omega⟩, by rw [rng_len]; omega, ?_⟩
  refine lc_invB (fun es ρ => ∃ (g : D) (w3 : Option D) (s : List Int), ρ = [some g, some (.int a), some (.int 4), w3] ∧ es = s.map D.int ∧ S3 s ∧ FeedOk (k + 1 + 2 * es.length) g) _ [] _ _ ⟨f2, none, [], rfl, rfl, (fun i h => absurd h (by simp)), hf2.up (by omega)⟩ ?_ ?_
  · rintro d hd es ρ hlt ⟨g, w3, s, rfl, rfl, hs, hg⟩ Q hq
    rw [rng_len, List.length_nil] at hlt
    simp only [wipeD, Tg.a, gV, List.set_cons_zero, List.set_cons_succ, aCallO, aCons, aNil, aC, aV, aLst, sl, withV, vals, Option.map_some]
    refine kd hg (by decide) (by decide) (by omega) fun j f3 j0 j1 hf3 => ?_
    try simp only [List.set_cons_zero, List.set_cons_succ]
    refine ⟨by show 5 ≤ sizeLine; omega, ?_⟩
    refine ko hf3 (by show 0 < 5; omega) (by show 5 < 1073741824; omega) (by omega) fun w hw f4 hf4 => ?_
    have hw' : ∃ i : Int, w = .int i ∧ 0 ≤ i ∧ i ≤ 3 := by
      simp only [List.mem_cons, List.not_mem_nil, or_false] at hw
      rcases hw with rfl | rfl | rfl | rfl | rfl
      · exact ⟨1, rfl, by decide, by decide⟩
      · exact ⟨2, rfl, by decide, by decide⟩
      · exact ⟨2, rfl, by decide, by decide⟩
      · exact ⟨3, rfl, by decide, by decide⟩
      · exact ⟨j, rfl, j0, by omega⟩
    obtain ⟨i, rfl, i0, i1⟩ := hw'
    refine hq _ _ ⟨f4, _, s ++ [i], rfl, by rw [List.map_append]; rfl, ?_, hf4.up ?_⟩
    · intro y hy
      rw [List.mem_append] at hy
      rcases hy with h | h
      · exact hs y h
      · rw [List.mem_singleton.mp h]; exact ⟨i0, i1⟩
    · simp only [List.length_append, List.length_cons, List.length_nil]; omega
  · rintro es ρ le ⟨g, w3, s, rfl, ee, hs, hg⟩
    rw [List.nil_append] at ee hg
    subst ee
    rw [rng_len, List.length_map] at le
    exact q s _ hs (by omega) (hg.up (by rw [List.length_map]; omega))

theorem pys_ints : ∀ c : List Int, pyDs (c.map D.int) = some (c.map PyData.int)
  | [] => rfl
  | i :: c => by
    show (match pyD (.int i), pyDs (c.map D.int) with | some p, some ps => some (p :: ps) | _, _ => none) = _
    rw [pys_ints c]
    rfl
open Lean in
local macro_rules
  | `(tactic| fail $s:str) => match s.getString with
    | "side" => `(tactic| first | assumption | exact trivial | exact rfl | omega | (simp only [List.length_map, List.length_cons, List.length_nil, List.length_append, List.length_replicate, List.length_range, List.length_take, List.length_drop, List.length_reverse, List.length_set]; omega) | decide | (simp only [List.length_map, List.length_cons, List.length_nil, List.length_append, List.length_replicate, List.length_range]; decide) | exact mul_small (by omega) | exact mul_small' (by omega))
    | "one" => `(tactic| first | fail "one0" | fail "one1" | fail "one2" | fail "one3" | fail "one4" | fail "one5" | fail "one6" | fail "one7" | fail "one8" | fail "one9" | fail "one10" | fail "one11" | fail "one12" | fail "one13" | fail "one14" | fail "one15" | fail "one16")
    | "one0" => `(tactic| first | (with_reducible apply Al.goP) | (with_reducible apply Al.goO) | (with_reducible apply Al.goJ) | (with_reducible apply Al.goSeq) | (with_reducible apply Al.stSet) | (with_reducible apply Al.stExpr) | (with_reducible apply Al.stNext) | (with_reducible apply Al.stAsg))
    | "one1" => `(tactic| first | (with_reducible apply Al.goIf) | (with_reducible apply Al.goRet) | (with_reducible apply Al.goRetN) | (with_reducible apply Al.goFor) | (with_reducible apply Al.goFor0) | (with_reducible apply Al.goAug) | (with_reducible apply Al.goParO) | (with_reducible apply Al.stPar))
    | "one2" => `(tactic| first | (with_reducible apply Al.goPar3) | (with_reducible apply Al.goIxS) | (with_reducible apply Al.goBrk) | (with_reducible apply Al.goCnt) | (with_reducible apply Al.stO) | (with_reducible apply Al.stC) | (with_reducible apply Al.stNil) | (with_reducible apply Al.stCons))
    | "one3" => `(tactic| first | (with_reducible apply Al.stW0) | (with_reducible apply Al.stW1) | (with_reducible apply Al.stW2) | (with_reducible apply Al.stW3) | (with_reducible apply Al.stW4) | (with_reducible apply Al.stW5) | (with_reducible apply Al.stW6) | (with_reducible apply Al.stTup))
    | "one4" => `(tactic| first | (with_reducible apply Al.stLst) | (with_reducible apply Al.stF) | (with_reducible apply Al.stCall) | (with_reducible apply Al.stCallD) | (with_reducible apply Al.stU) | (with_reducible apply Al.stSl) | (with_reducible apply Al.stpN) | (with_reducible apply Al.stpS))
    | "one5" => `(tactic| first | (with_reducible apply Al.onInt_i) | (with_reducible apply Al.onBl_i) | (with_reducible apply Al.onLst_i) | (with_reducible apply Al.onTup_i) | (with_reducible apply Al.onStr_i) | (with_reducible apply Al.onInt1_i) | (with_reducible apply Al.on2_i) | (with_reducible apply Al.on3_i))
    | "one6" => `(tactic| first | (with_reducible apply Al.onIns_i) | (with_reducible apply Al.onNon_i) | (with_reducible apply Al.stB) | (with_reducible apply Al.stTr) | (with_reducible apply Al.stTOr) | (with_reducible apply Al.stTAnd) | (with_reducible apply Al.stTNot) | (with_reducible apply Al.stAnd))
    | "one7" => `(tactic| first | (with_reducible apply Al.stOr) | (with_reducible apply Al.stNot) | (with_reducible apply Al.stIfE) | (with_reducible apply Al.stIs) | (with_reducible apply Al.stM1) | (with_reducible apply Al.stiL) | (with_reducible apply Al.stiT) | (with_reducible apply Al.goiR1))
    | "one8" => `(tactic| first | (with_reducible apply Al.goiS) | (with_reducible apply Al.goFld) | (with_reducible apply Al.goFldO) | (with_reducible apply Al.goCh) | (with_reducible apply Al.goIxO) | (with_reducible apply Al.goApp) | (with_reducible apply Al.goExt) | (with_reducible apply Al.goLenO))
    | "one9" => `(tactic| first | (with_reducible apply Al.goTupO) | (with_reducible apply Al.goRev) | (with_reducible apply Al.goEmpO) | (with_reducible apply Al.goMeth) | (with_reducible apply Al.goMake) | (with_reducible apply Al.goTy) | (with_reducible apply Al.goNm) | (with_reducible apply Al.goV))
    | "one10" => `(tactic| first | (with_reducible apply Al.goCallJ) | (with_reducible apply Al.if_t) | (with_reducible apply Al.if_f) | (with_reducible apply Al.if_tn) | (with_reducible apply Al.if_fn) | (with_reducible apply Al.if_T) | (with_reducible apply Al.opI) | (with_reducible apply Al.opAddI))
    | "one11" => `(tactic| first | (with_reducible apply Al.opEqI) | (with_reducible apply Al.opEqS) | (with_reducible apply Al.opEqE) | (with_reducible apply Al.opNeI) | (with_reducible apply Al.opNeS) | (with_reducible apply Al.opNeE) | (with_reducible apply Al.opEqT) | (with_reducible apply Al.opNeT))
    | "one12" => `(tactic| first | (with_reducible apply Al.opNeg) | (with_reducible apply Al.opIxL) | (with_reducible apply Al.opIxT) | (with_reducible apply Al.opSlT) | (with_reducible apply Al.opSlL) | (with_reducible apply Al.opLenL) | (with_reducible apply Al.opLenT) | (with_reducible apply Al.opLenC))
    | "one13" => `(tactic| first | (with_reducible apply Al.opStrS) | (with_reducible apply Al.opTupL) | (with_reducible apply Al.opTupT) | (with_reducible apply Al.opLstT) | (with_reducible apply Al.opLstL) | (with_reducible apply Al.opEqN) | (with_reducible apply Al.opIsN_i) | (with_reducible apply Al.opIsN_s))
    | "one14" => `(tactic| first | (with_reducible apply Al.opIsN_t) | (with_reducible apply Al.opIsN_l) | (with_reducible apply Al.opNotN_i) | (with_reducible apply Al.opNotN_n) | (with_reducible apply Al.opMax) | (with_reducible apply Al.opMin) | (with_reducible apply Al.opAbs) | (with_reducible apply Al.opIntI))
    | "one15" => `(tactic| first | (with_reducible apply Al.opIntB) | (with_reducible apply Al.opRevL) | (with_reducible apply Al.opRevT) | (with_reducible apply Al.ifNN) | (with_reducible apply Al.goDisp) | (with_reducible apply Al.goDgo0) | (with_reducible apply Al.goDgo) | (with_reducible apply Al.at0c))
    | "one16" => `(tactic| first | (with_reducible apply Al.at0m) | (with_reducible apply Al.at1c) | (with_reducible apply Al.at2c) | (with_reducible apply Al.at3c))
    | "rfl" => `(tactic| first | fail "rfl0" | fail "rfl1")
    | "rfl0" => `(tactic| first | ((with_reducible apply Al.stW); exact rfl) | ((with_reducible apply Al.stV); exact rfl) | ((with_reducible apply Al.stM); exact rfl) | ((with_reducible apply Al.goWL); exact rfl) | ((with_reducible apply Al.goWD); exact rfl) | ((with_reducible apply Al.goAt0); exact rfl) | ((with_reducible apply Al.goAtj); exact rfl) | ((with_reducible apply Al.onSome_i); exact rfl))
    | "rfl1" => `(tactic| first | ((with_reducible apply Al.goTp); exact rfl) | ((with_reducible apply Al.goOwn); exact rfl) | ((with_reducible apply Al.goWJ); exact rfl) | ((with_reducible apply Al.stCallO); exact rfl))
    | "conj" => `(tactic| first | fail "conj0" | fail "conj1")
    | "conj0" => `(tactic| first | (with_reducible apply Al.opIC) | (with_reducible apply Al.opAddS) | (with_reducible apply Al.opAddT) | (with_reducible apply Al.opAddL) | (with_reducible apply Al.opMulI) | (with_reducible apply Al.opSlS) | (with_reducible apply Al.opLenS) | (with_reducible apply Al.opStrI))
    | "conj1" => `(tactic| first | ((with_reducible refine And.intro ?_ ?_); fail "side") | ((with_reducible apply Al.goStL); fail "side") | ((with_reducible apply Al.goStT); fail "side"))
    | "ifs" => `(tactic| first | ((with_reducible apply Al.ifT); fail "side") | ((with_reducible apply Al.ifF); fail "side") | ((with_reducible apply Al.ifTn); fail "side") | ((with_reducible apply Al.ifFn); fail "side") | ((with_reducible apply Al.ifT'); fail "side") | ((with_reducible apply Al.ifF'); fail "side") | ((with_reducible apply Al.ifTb); exact rfl) | ((with_reducible apply Al.ifFb); exact rfl))
    | "norm" => `(tactic| simp only [List.set_cons_zero, List.set_cons_succ, Al.setAll_c, Al.setAll_0, Int.toNat_natCast, Al.cut1c, Al.cut1m, Al.cutAll, List.cons_append, List.nil_append])
    | "step" => `(tactic| first | fail "one" | fail "rfl" | fail "norm" | fail "conj" | fail "ifs")
    | _ => Macro.throwUnsupported

theorem opAll {es : List D} {bs : List Bool} {P : D → Prop} (h : blsD es = some bs) (q : P (.bl (bs.all id))) : fAll [.lst es] P := by
  show (match blsD es with
    | some bs => P (.bl (bs.all id))
    | none => False)
  rw [h]
  exact q
def isz : D → Bool
  | .int j => decide (0 ≤ j) && decide (j ≤ 4000)
  | _ => false
def typed (d : D) : Bool := (tyS d).isSome
theorem whole_ok {d : D} {P : D → Prop} {X : XP} (h : typed d = true) (q : P (.bl (match d with | .int _ => true | _ => false))) : F_is_whole [d] P X := by
  unfold F_is_whole B_is_whole
  cases d with
  | non => exact q
  | bl b => exact q
  | int i => exact q
  | str z => exact q
  | lst l => exact q
  | tup l => exact q
  | dic l => exact q
  | _ => cases h
theorem from_ok {d : D} {P : D → Prop} {X : XP} (h : typed d = true) (q : P (.bl (isz d))) : F_is_from [d, .int 0, .int 4000] P X := by
  have kw := @whole_ok d
  unfold F_is_from B_is_from
  generalize F_is_whole = F1 at kw ⊢
  refine kw h ?_
  cases d with
  | int j =>
    have q : P (.bl (decide (0 ≤ j) && decide (j ≤ 4000))) := q
    show (if decide (j ≥ 0) = true then _ else _)
    by_cases c : 0 ≤ j
    · rw [decide_eq_true (show j ≥ 0 from c), if_pos rfl]
      rw [decide_eq_true c, Bool.true_and] at q
      exact q
    · rw [decide_eq_false (show ¬ j ≥ 0 from c), if_neg (by decide)]
      rw [decide_eq_false c, Bool.false_and] at q
      exact q
  | _ => exact q
def shpD : D → Bool
  | .tup ds => decide (ds.length ≤ 6) && ds.all isz
  | _ => false
theorem shape_gen {d : D} {P : D → Prop} {X : XP} (h : typed d = true) (ht : ∀ ds, d = .tup ds → ds.length ≤ 1000000 ∧ ∀ x ∈ ds, typed x = true) (q : P (.bl (shpD d))) : F_is_shape [d] P X := by
  have sz : (100000 : Nat) < sizeLine := by decide
  have kf := @from_ok
  unfold F_is_shape B_is_shape
  generalize F_is_from = F1 at kf ⊢
  refine seq_k fun K hK => ?_
  cases d with
  | tup ds =>
    obtain ⟨hl, hx⟩ := ht ds rfl
    have q : P (.bl (decide (ds.length ≤ 6) && ds.all isz)) := q
    repeat (first | fail "step")
    by_cases c : ds.length ≤ 6
    · rw [decide_eq_false (show ¬ ((ds.length : Nat) : Int) > 6 by omega)]
      rw [decide_eq_true c, Bool.true_and] at q
      repeat (fail "stp0")
      rw [hK]; clear hK
      repeat (fail "stp0")
      refine aLc_map ds (fun x => .bl (isz x)) (fun Q hQ => hQ) (by omega) (fun z hz Q hQ => ?_) ?_
      · repeat (first | (with_reducible apply Al.stO) | (with_reducible apply Al.stC) | (with_reducible apply Al.stNil) | (with_reducible apply Al.stCons) | (with_reducible apply Al.stW0) | (with_reducible apply Al.stW1) | (with_reducible apply Al.stW2) | (with_reducible apply Al.stW3) | (with_reducible apply Al.stW4) | (with_reducible apply Al.stW5) | (with_reducible apply Al.stW6) | (with_reducible apply Al.stTup) | (with_reducible apply Al.stLst) | (with_reducible apply Al.stF) | (with_reducible apply Al.stCall) | (with_reducible apply Al.stCallD) | (with_reducible apply Al.stU) | (with_reducible apply Al.stSl) | (with_reducible apply Al.stpN) | (with_reducible apply Al.stpS) | (with_reducible apply Al.onInt_i) | (with_reducible apply Al.onBl_i) | (with_reducible apply Al.onLst_i) | (with_reducible apply Al.onTup_i) | (with_reducible apply Al.onStr_i) | (with_reducible apply Al.onInt1_i) | (with_reducible apply Al.on2_i) | (with_reducible apply Al.stB) | (with_reducible apply Al.stTr) | (with_reducible apply Al.stTOr) | (with_reducible apply Al.stTAnd) | (with_reducible apply Al.stTNot) | (with_reducible apply Al.stAnd) | (with_reducible apply Al.stOr) | (with_reducible apply Al.stNot) | (with_reducible apply Al.stIfE) | (with_reducible apply Al.stIs) | (with_reducible apply Al.stM1) | (with_reducible apply Al.stiL) | (with_reducible apply Al.stiT) | (with_reducible apply Al.stiR1) | (with_reducible apply Al.if_t) | (with_reducible apply Al.if_f) | (with_reducible apply Al.if_tn) | (with_reducible apply Al.if_fn) | (with_reducible apply Al.if_T) | (with_reducible apply Al.stSet) | (with_reducible apply Al.stExpr) | (with_reducible apply Al.stNext) | (with_reducible apply Al.stAsg) | (with_reducible apply Al.stIf) | (with_reducible apply Al.stFor) | (with_reducible apply Al.stPar) | (with_reducible apply Al.stRetO) | (with_reducible apply Al.stRetP) | (with_reducible apply Al.stRetMO) | (with_reducible apply Al.stRetMP) | (with_reducible apply Al.opI) | (with_reducible apply Al.opIC) | (with_reducible apply Al.opAddI) | (with_reducible apply Al.opAddS) | (with_reducible apply Al.opAddT) | (with_reducible apply Al.opAddL) | (with_reducible apply Al.opMulI) | (with_reducible apply Al.opEqI) | (with_reducible apply Al.opEqS) | (with_reducible apply Al.opEqE) | (with_reducible apply Al.opNeI) | (with_reducible apply Al.opNeS) | (with_reducible apply Al.opNeE) | (with_reducible apply Al.opEqT) | (with_reducible apply Al.opNeT) | (with_reducible apply Al.opNeg) | (with_reducible apply Al.opIxL) | (with_reducible apply Al.opIxT) | (with_reducible apply Al.opSlT) | (with_reducible apply Al.opSlL) | (with_reducible apply Al.opSlS) | (with_reducible apply Al.opLenL) | (with_reducible apply Al.opLenT) | (with_reducible apply Al.opLenC) | (with_reducible apply Al.opLenS) | (with_reducible apply Al.opStrI) | (with_reducible apply Al.opStrS) | (with_reducible apply Al.opTupL) | (with_reducible apply Al.opLstT) | ((with_reducible apply Al.stV); exact rfl) | ((with_reducible apply Al.stM); exact rfl) | ((with_reducible apply Al.stCallO); exact rfl) | ((with_reducible apply Al.onSome_i (a := true)); exact rfl) | ((with_reducible apply Al.onSome_i (a := false)); exact rfl) | ((with_reducible apply Al.onSome_i); exact rfl) | ((with_reducible apply Al.at0_i); exact rfl))
        exact kf (hx z hz) hQ
      · repeat (first | (with_reducible apply Al.stO) | (with_reducible apply Al.stC) | (with_reducible apply Al.stNil) | (with_reducible apply Al.stCons) | (with_reducible apply Al.stW0) | (with_reducible apply Al.stW1) | (with_reducible apply Al.stW2) | (with_reducible apply Al.stW3) | (with_reducible apply Al.stW4) | (with_reducible apply Al.stW5) | (with_reducible apply Al.stW6) | (with_reducible apply Al.stTup) | (with_reducible apply Al.stLst) | (with_reducible apply Al.stF) | (with_reducible apply Al.stCall) | (with_reducible apply Al.stCallD) | (with_reducible apply Al.stU) | (with_reducible apply Al.stSl) | (with_reducible apply Al.stpN) | (with_reducible apply Al.stpS) | (with_reducible apply Al.onInt_i) | (with_reducible apply Al.onBl_i) | (with_reducible apply Al.onLst_i) | (with_reducible apply Al.onTup_i) | (with_reducible apply Al.onStr_i) | (with_reducible apply Al.onInt1_i) | (with_reducible apply Al.on2_i) | (with_reducible apply Al.stB) | (with_reducible apply Al.stTr) | (with_reducible apply Al.stTOr) | (with_reducible apply Al.stTAnd) | (with_reducible apply Al.stTNot) | (with_reducible apply Al.stAnd) | (with_reducible apply Al.stOr) | (with_reducible apply Al.stNot) | (with_reducible apply Al.stIfE) | (with_reducible apply Al.stIs) | (with_reducible apply Al.stM1) | (with_reducible apply Al.stiL) | (with_reducible apply Al.stiT) | (with_reducible apply Al.stiR1) | (with_reducible apply Al.if_t) | (with_reducible apply Al.if_f) | (with_reducible apply Al.if_tn) | (with_reducible apply Al.if_fn) | (with_reducible apply Al.if_T) | (with_reducible apply Al.stSet) | (with_reducible apply Al.stExpr) | (with_reducible apply Al.stNext) | (with_reducible apply Al.stAsg) | (with_reducible apply Al.stIf) | (with_reducible apply Al.stFor) | (with_reducible apply Al.stPar) | (with_reducible apply Al.stRetO) | (with_reducible apply Al.stRetP) | (with_reducible apply Al.stRetMO) | (with_reducible apply Al.stRetMP) | (with_reducible apply Al.opI) | (with_reducible apply Al.opIC) | (with_reducible apply Al.opAddI) | (with_reducible apply Al.opAddS) | (with_reducible apply Al.opAddT) | (with_reducible apply Al.opAddL) | (with_reducible apply Al.opMulI) | (with_reducible apply Al.opEqI) | (with_reducible apply Al.opEqS) | (with_reducible apply Al.opEqE) | (with_reducible apply Al.opNeI) | (with_reducible apply Al.opNeS) | (with_reducible apply Al.opNeE) | (with_reducible apply Al.opEqT) | (with_reducible apply Al.opNeT) | (with_reducible apply Al.opNeg) | (with_reducible apply Al.opIxL) | (with_reducible apply Al.opIxT) | (with_reducible apply Al.opSlT) | (with_reducible apply Al.opSlL) | (with_reducible apply Al.opSlS) | (with_reducible apply Al.opLenL) | (with_reducible apply Al.opLenT) | (with_reducible apply Al.opLenC) | (with_reducible apply Al.opLenS) | (with_reducible apply Al.opStrI) | (with_reducible apply Al.opStrS) | (with_reducible apply Al.opTupL) | (with_reducible apply Al.opLstT) | ((with_reducible apply Al.stV); exact rfl) | ((with_reducible apply Al.stM); exact rfl) | ((with_reducible apply Al.stCallO); exact rfl) | ((with_reducible apply Al.onSome_i (a := true)); exact rfl) | ((with_reducible apply Al.onSome_i (a := false)); exact rfl) | ((with_reducible apply Al.onSome_i); exact rfl) | ((with_reducible apply Al.at0_i); exact rfl))
        refine opAll (bls_map isz ds) ?_
        rw [List.all_map]
        exact q
    · rw [decide_eq_true (show ((ds.length : Nat) : Int) > 6 by omega)]
      rw [decide_eq_false c, Bool.false_and] at q
      exact q
  | non => exact q
  | bl b => exact q
  | int i => exact q
  | str z => exact q
  | lst l => exact q
  | dic l => exact q
  | _ => cases h
theorem sh_ti {s : List Int} (hs : Sz s) (hl : s.length ≤ 6) : shpD (ti s) = true := by
  show (decide ((s.map D.int).length ≤ 6) && (s.map D.int).all isz) = true
  rw [List.length_map, decide_eq_true hl, Bool.true_and, List.all_map, List.all_eq_true]
  intro x hx
  obtain ⟨h0, h1⟩ := hs x hx
  show (decide (0 ≤ x) && decide (x ≤ 4000)) = true
  rw [decide_eq_true h0, decide_eq_true (by omega)]
  rfl
theorem shape_ok {s : List Int} {P : D → Prop} {X : XP} (hs : Sz s) (hl : s.length ≤ 6) (q : P (.bl true)) : F_is_shape [ti s] P X := by
  refine shape_gen rfl (fun ds e => ?_) (by rw [sh_ti hs hl]; exact q)
  cases e
  refine ⟨by rw [List.length_map]; omega, fun x hx => ?_⟩
  obtain ⟨i, _, rfl⟩ := List.mem_map.mp hx
  rfl
theorem eqvAll_ints : ∀ a b : List Int, PyData.eqvAll (a.map PyData.int) (b.map PyData.int) = decide (a = b)
  | [], [] => rfl
  | [], _ :: _ => rfl
  | _ :: _, [] => rfl
  | x :: a, y :: b => by
    simp only [List.map_cons, PyData.eqvAll, PyData.eqv, eqvAll_ints a b, List.cons.injEq, Bool.decide_and]
    rfl
theorem py_ti (c : List Int) : pyD (ti c) = some (.tuple (c.map PyData.int)) := by
  show (pyDs (c.map D.int)).map PyData.tuple = _
  rw [pys_ints]
  rfl
theorem py_li (c : List Int) : pyD (li c) = some (.list (c.map PyData.int)) := by
  show (pyDs (c.map D.int)).map PyData.list = _
  rw [pys_ints]
  rfl
theorem shp_ti (c : List Int) : shD (ti c) = true := by
  have h1 := canInts c
  have h2 := depInts c
  unfold shD
  rw [py_ti]
  show SeqAt.shaped (.tuple (c.map PyData.int)) = true
  unfold SeqAt.shaped
  rw [show PyData.canLay0 (.tuple (c.map PyData.int)) = true by rw [PyData.canLay0]; exact h1]
  simp [PyData.depth]
  omega
theorem shp_pair (s c : List Int) : shD (.tup [ti s, li c]) = true := by
  have h1 := canInts s
  have h2 := depInts s
  have h3 := canInts c
  have h4 := depInts c
  have e : pyD (.tup [ti s, li c]) = some (.tuple [.tuple (s.map PyData.int), .list (c.map PyData.int)]) := by
    simp only [pyD, pyDs, pys_ints, Option.map_some]
  unfold shD
  rw [e]
  show SeqAt.shaped _ = true
  unfold SeqAt.shaped
  rw [show PyData.canLay0 (.tuple [.tuple (s.map PyData.int), .list (c.map PyData.int)]) = true by simp only [PyData.canLay0, PyData.canLayAll0]; rw [h1, h3]; rfl]
  simp [PyData.depth, PyData.depthAll]
  omega
theorem eq_ti {a b : List Int} {P : D → Prop} (q : P (.bl (decide (a = b)))) : oEqA (ti a) (ti b) P := by
  refine ⟨⟨shp_ti a, shp_ti b⟩, ?_⟩
  have e : eqvD (ti a) (ti b) = decide (a = b) := by
    unfold eqvD
    rw [py_ti, py_ti]
    exact eqvAll_ints a b
  rw [e]
  exact q
theorem eq_pair {s c s' c' : List Int} {P : D → Prop} (q : P (.bl (decide (s = s' ∧ c = c')))) : oEqA (.tup [ti s, li c]) (.tup [ti s', li c']) P := by
  refine ⟨⟨shp_pair s c, shp_pair s' c'⟩, ?_⟩
  have e : ∀ s c, pyD (.tup [ti s, li c]) = some (.tuple [.tuple (s.map PyData.int), .list (c.map PyData.int)]) := fun s c => by
    simp only [pyD, pyDs, pys_ints, Option.map_some]
  have e : eqvD (.tup [ti s, li c]) (.tup [ti s', li c']) = decide (s = s' ∧ c = c') := by
    unfold eqvD
    rw [e, e]
    simp only [PyData.eqv, PyData.eqvAll, eqvAll_ints, Bool.and_true, Bool.decide_and]
  rw [e]
  exact q
abbrev ar (s c : List Int) : D := .ins 0 [ti s, ti c]
theorem eqm_ok {s c s' c' : List Int} {P : D → Prop} {X : XP} (q : P (.bl (decide (s = s' ∧ c = c')))) : F_Array___eq__ [ar s c, ar s' c'] P X := by
  unfold F_Array___eq__ B_Array___eq__
  repeat (first | fail "step")
  refine eq_ti ?_
  by_cases h : s = s'
  · rw [decide_eq_true h]
    repeat (first | fail "step")
    refine eq_ti ?_
    have e : decide (s = s' ∧ c = c') = decide (c = c') := by simp [h]
    rw [e] at q
    exact q
  · rw [decide_eq_false h]
    have e : decide (s = s' ∧ c = c') = false := by simp [h]
    rw [e] at q
    exact q
/-! ### Array.__init__ -/
theorem init_ok {s c : List Int} {cd : D} {P : D → D → Prop} {X : XP} (hs : Sz s) (hl : s.length ≤ 6) (hc : (c.length : Int) = prd s) (hd : cd = li c ∨ cd = ti c) (q : P .non (ar s c)) : F_Array___init__ (.ins 0 []) [ti s, cd] P X := by
  have k1 := @shape_ok
  have k2 := @count_ok
  unfold F_Array___init__ B_Array___init__
  generalize F_is_shape = F1 at k1 ⊢
  generalize F_count = F2 at k2 ⊢
  have el : ∀ Q : D → Prop, Q (.int (c.length : Nat)) → fLenA [cd] Q := fun Q hQ => by
    rcases hd with rfl | rfl
    · show Q (.int ((c.map D.int).length : Nat)); rw [List.length_map]; exact hQ
    · show Q (.int ((c.map D.int).length : Nat)); rw [List.length_map]; exact hQ
  have et : ∀ Q : D → Prop, Q (ti c) → fTuple [cd] Q := fun Q hQ => by
    rcases hd with rfl | rfl
    · exact hQ
    · exact hQ
  refine seq_k fun K hK => ?_
  repeat (fail "stp0")
  refine k1 hs hl ?_
  repeat (fail "stp0")
  rw [hK]; clear hK
  refine seq_k fun K hK => ?_
  repeat (fail "stp0")
  refine el _ ?_
  repeat (fail "stp0")
  refine k2 hs hl ?_
  repeat (fail "stp0")
  rw [decide_eq_true hc]
  repeat (fail "stp0")
  rw [hK]; clear hK
  rcases hd with rfl | rfl <;> exact q
end Cr

namespace Cr
open PySem PySem.Builtin PySem.Builtin.Str PyProof.Rows L2 Al TL NumText
open Lean in
local macro_rules
  | `(tactic| fail $s:str) => match s.getString with
    | "side" => `(tactic| first | assumption | exact trivial | exact rfl | omega | (simp only [List.length_map, List.length_cons, List.length_nil, List.length_append, List.length_replicate, List.length_range, List.length_take, List.length_drop, List.length_reverse, List.length_set]; omega) | decide | (simp only [List.length_map, List.length_cons, List.length_nil, List.length_append, List.length_replicate, List.length_range]; decide) | exact mul_small (by omega) | exact mul_small' (by omega))
    | "one" => `(tactic| first | fail "one0" | fail "one1" | fail "one2" | fail "one3" | fail "one4" | fail "one5" | fail "one6" | fail "one7" | fail "one8" | fail "one9" | fail "one10" | fail "one11" | fail "one12" | fail "one13" | fail "one14" | fail "one15" | fail "one16")
    | "one0" => `(tactic| first | (with_reducible apply Al.goP) | (with_reducible apply Al.goO) | (with_reducible apply Al.goJ) | (with_reducible apply Al.goSeq) | (with_reducible apply Al.stSet) | (with_reducible apply Al.stExpr) | (with_reducible apply Al.stNext) | (with_reducible apply Al.stAsg))
    | "one1" => `(tactic| first | (with_reducible apply Al.goIf) | (with_reducible apply Al.goRet) | (with_reducible apply Al.goRetN) | (with_reducible apply Al.goFor) | (with_reducible apply Al.goFor0) | (with_reducible apply Al.goAug) | (with_reducible apply Al.goParO) | (with_reducible apply Al.stPar))
    | "one2" => `(tactic| first | (with_reducible apply Al.goPar3) | (with_reducible apply Al.goIxS) | (with_reducible apply Al.goBrk) | (with_reducible apply Al.goCnt) | (with_reducible apply Al.stO) | (with_reducible apply Al.stC) | (with_reducible apply Al.stNil) | (with_reducible apply Al.stCons))
    | "one3" => `(tactic| first | (with_reducible apply Al.stW0) | (with_reducible apply Al.stW1) | (with_reducible apply Al.stW2) | (with_reducible apply Al.stW3) | (with_reducible apply Al.stW4) | (with_reducible apply Al.stW5) | (with_reducible apply Al.stW6) | (with_reducible apply Al.stTup))
    | "one4" => `(tactic| first | (with_reducible apply Al.stLst) | (with_reducible apply Al.stF) | (with_reducible apply Al.stCall) | (with_reducible apply Al.stCallD) | (with_reducible apply Al.stU) | (with_reducible apply Al.stSl) | (with_reducible apply Al.stpN) | (with_reducible apply Al.stpS))
    | "one5" => `(tactic| first | (with_reducible apply Al.onInt_i) | (with_reducible apply Al.onBl_i) | (with_reducible apply Al.onLst_i) | (with_reducible apply Al.onTup_i) | (with_reducible apply Al.onStr_i) | (with_reducible apply Al.onInt1_i) | (with_reducible apply Al.on2_i) | (with_reducible apply Al.on3_i))
    | "one6" => `(tactic| first | (with_reducible apply Al.onIns_i) | (with_reducible apply Al.onNon_i) | (with_reducible apply Al.stB) | (with_reducible apply Al.stTr) | (with_reducible apply Al.stTOr) | (with_reducible apply Al.stTAnd) | (with_reducible apply Al.stTNot) | (with_reducible apply Al.stAnd))
    | "one7" => `(tactic| first | (with_reducible apply Al.stOr) | (with_reducible apply Al.stNot) | (with_reducible apply Al.stIfE) | (with_reducible apply Al.stIs) | (with_reducible apply Al.stM1) | (with_reducible apply Al.stiL) | (with_reducible apply Al.stiT) | (with_reducible apply Al.goiR1))
    | "one8" => `(tactic| first | (with_reducible apply Al.goiS) | (with_reducible apply Al.goFld) | (with_reducible apply Al.goFldO) | (with_reducible apply Al.goCh) | (with_reducible apply Al.goIxO) | (with_reducible apply Al.goApp) | (with_reducible apply Al.goExt) | (with_reducible apply Al.goLenO))
    | "one9" => `(tactic| first | (with_reducible apply Al.goTupO) | (with_reducible apply Al.goRev) | (with_reducible apply Al.goEmpO) | (with_reducible apply Al.goMeth) | (with_reducible apply Al.goMake) | (with_reducible apply Al.goTy) | (with_reducible apply Al.goNm) | (with_reducible apply Al.goV))
    | "one10" => `(tactic| first | (with_reducible apply Al.goCallJ) | (with_reducible apply Al.if_t) | (with_reducible apply Al.if_f) | (with_reducible apply Al.if_tn) | (with_reducible apply Al.if_fn) | (with_reducible apply Al.if_T) | (with_reducible apply Al.opI) | (with_reducible apply Al.opAddI))
    | "one11" => `(tactic| first | (with_reducible apply Al.opEqI) | (with_reducible apply Al.opEqS) | (with_reducible apply Al.opEqE) | (with_reducible apply Al.opNeI) | (with_reducible apply Al.opNeS) | (with_reducible apply Al.opNeE) | (with_reducible apply Al.opEqT) | (with_reducible apply Al.opNeT))
    | "one12" => `(tactic| first | (with_reducible apply Al.opNeg) | (with_reducible apply Al.opIxL) | (with_reducible apply Al.opIxT) | (with_reducible apply Al.opSlT) | (with_reducible apply Al.opSlL) | (with_reducible apply Al.opLenL) | (with_reducible apply Al.opLenT) | (with_reducible apply Al.opLenC))
    | "one13" => `(tactic| first | (with_reducible apply Al.opStrS) | (with_reducible apply Al.opTupL) | (with_reducible apply Al.opTupT) | (with_reducible apply Al.opLstT) | (with_reducible apply Al.opLstL) | (with_reducible apply Al.opEqN) | (with_reducible apply Al.opIsN_i) | (with_reducible apply Al.opIsN_s))
    | "one14" => `(tactic| first | (with_reducible apply Al.opIsN_t) | (with_reducible apply Al.opIsN_l) | (with_reducible apply Al.opNotN_i) | (with_reducible apply Al.opNotN_n) | (with_reducible apply Al.opMax) | (with_reducible apply Al.opMin) | (with_reducible apply Al.opAbs) | (with_reducible apply Al.opIntI))
    | "one15" => `(tactic| first | (with_reducible apply Al.opIntB) | (with_reducible apply Al.opRevL) | (with_reducible apply Al.opRevT) | (with_reducible apply Al.ifNN) | (with_reducible apply Al.goDisp) | (with_reducible apply Al.goDgo0) | (with_reducible apply Al.goDgo) | (with_reducible apply Al.at0c))
    | "one16" => `(tactic| first | (with_reducible apply Al.at0m) | (with_reducible apply Al.at1c) | (with_reducible apply Al.at2c) | (with_reducible apply Al.at3c))
    | "rfl" => `(tactic| first | fail "rfl0" | fail "rfl1")
    | "rfl0" => `(tactic| first | ((with_reducible apply Al.stW); exact rfl) | ((with_reducible apply Al.stV); exact rfl) | ((with_reducible apply Al.stM); exact rfl) | ((with_reducible apply Al.goWL); exact rfl) | ((with_reducible apply Al.goWD); exact rfl) | ((with_reducible apply Al.goAt0); exact rfl) | ((with_reducible apply Al.goAtj); exact rfl) | ((with_reducible apply Al.onSome_i); exact rfl))
    | "rfl1" => `(tactic| first | ((with_reducible apply Al.goTp); exact rfl) | ((with_reducible apply Al.goOwn); exact rfl) | ((with_reducible apply Al.goWJ); exact rfl) | ((with_reducible apply Al.stCallO); exact rfl))
    | "conj" => `(tactic| first | fail "conj0" | fail "conj1")
    | "conj0" => `(tactic| first | (with_reducible apply Al.opIC) | (with_reducible apply Al.opAddS) | (with_reducible apply Al.opAddT) | (with_reducible apply Al.opAddL) | (with_reducible apply Al.opMulI) | (with_reducible apply Al.opSlS) | (with_reducible apply Al.opLenS) | (with_reducible apply Al.opStrI))
    | "conj1" => `(tactic| first | ((with_reducible refine And.intro ?_ ?_); fail "side") | ((with_reducible apply Al.goStL); fail "side") | ((with_reducible apply Al.goStT); fail "side"))
    | "ifs" => `(tactic| first | ((with_reducible apply Al.ifT); fail "side") | ((with_reducible apply Al.ifF); fail "side") | ((with_reducible apply Al.ifTn); fail "side") | ((with_reducible apply Al.ifFn); fail "side") | ((with_reducible apply Al.ifT'); fail "side") | ((with_reducible apply Al.ifF'); fail "side") | ((with_reducible apply Al.ifTb); exact rfl) | ((with_reducible apply Al.ifFb); exact rfl))
    | "norm" => `(tactic| simp only [List.set_cons_zero, List.set_cons_succ, Al.setAll_c, Al.setAll_0, Int.toNat_natCast, Al.cut1c, Al.cut1m, Al.cutAll, List.cons_append, List.nil_append])
    | "step" => `(tactic| first | fail "one" | fail "rfl" | fail "norm" | fail "conj" | fail "ifs")
    | _ => Macro.throwUnsupported

def optI : Option Int → D
  | some i => .int i
  | none => .non
def digc (c : Nat) : Bool := decide (48 ≤ c) && decide (c ≤ 57)
theorem zero_is : Str.ofString "0" = ⟨#[48]⟩ := by decide +kernel
theorem w_zero {w : Str} : (w = Str.ofString "0") ↔ tl w = [48] := by
  rw [zero_is]
  constructor
  · rintro rfl; rfl
  · intro h; exact str_ext h
theorem whole_in_ok {w : Str} (hb : w.length ≤ 100000) {P : D → Prop} {X : XP} (p : P (optI (whL (tl w)))) : F_whole_in [.str w] P X := by
  unfold F_whole_in B_whole_in
  refine seq_k fun K hK => ?_
  simp only [sSeq, sIf, sSet, sRet, sNext, sExpr, sAsg, sPar, sPar3, aB, aO, aU, aV, aC, aF, aIf, aAnd, aOr, aNot, aTAnd, aTOr, aTNot, aTr, aCh, aIs, aCall, aTup, aLst, aCons, aNil, aM1, aSl, pN, pS, withV, vals, sl, List.set_cons_zero, List.set_cons_succ, List.set_nil, Option.map_some, endP, endO, at0s, if_true, if_false, Bool.false_eq_true, isT, tyS, fI, fIC, fLenA, Bool.not_true, Bool.not_false, iS, iL, iT, reduceCtorEq]
  simp only [mStarts, starts1 w "-" 45 (by decide +kernel), truD]
  have sz : (100000 : Nat) < sizeLine := by decide
  have key : ∀ g : Str, tl g = bare (tl w) → K [some (.str w), some (.str g), none] := fun g hg => by
    have lg : g.length ≤ w.length := by
      rw [len_tl, len_tl, hg]; unfold bare; split <;> simp
    rw [hK]
    refine seq_k fun K2 hK2 => ?_
    simp only [sSeq, sIf, sSet, sRet, sNext, sExpr, sAsg, sPar, sPar3, aB, aO, aU, aV, aC, aF, aIf, aAnd, aOr, aNot, aTAnd, aTOr, aTNot, aTr, aCh, aIs, aCall, aTup, aLst, aCons, aNil, aM1, aSl, pN, pS, withV, vals, sl, List.set_cons_zero, List.set_cons_succ, List.set_nil, Option.map_some, endP, endO, at0s, if_true, if_false, Bool.false_eq_true, isT, tyS, fI, fIC, fLenA, Bool.not_true, Bool.not_false, iS, iL, iT, reduceCtorEq]
    refine ⟨by omega, ?_⟩
    have lg' : (g.length : Int) = (bare (tl w)).length := by rw [len_tl, hg]
    by_cases c1 : (1 : Int) ≤ g.length
    case neg =>
      simp only [c1, decide_false, Bool.not_false, if_true]
      rw [whL, if_pos (by omega)] at p
      exact p
    by_cases c2 : (g.length : Int) ≤ 4000
    case neg =>
      simp only [c1, c2, decide_false, decide_true, Bool.not_false, if_true]
      rw [whL, if_pos (by omega)] at p
      exact p
    simp only [c1, c2, decide_true, Bool.not_true, if_false, Bool.false_eq_true]
    refine aLc_map (signsD g) (fun d => .bl (digc (sgn d))) (fun Q q => by simp only [sSeq, sIf, sSet, sRet, sNext, sExpr, sAsg, sPar, sPar3, aB, aO, aU, aV, aC, aF, aIf, aAnd, aOr, aNot, aTAnd, aTOr, aTNot, aTr, aCh, aIs, aCall, aTup, aLst, aCons, aNil, aM1, aSl, pN, pS, withV, vals, sl, List.set_cons_zero, List.set_cons_succ, List.set_nil, Option.map_some, endP, endO, at0s, if_true, if_false, Bool.false_eq_true, isT, tyS, fI, fIC, fLenA, Bool.not_true, Bool.not_false, iS, iL, iT, reduceCtorEq]; exact q) (by rw [signsD_len]; omega) ?_ ?_
    · intro d hd Q q
      simp only [signsD, List.mem_map] at hd
      obtain ⟨c, hc, rfl⟩ := hd
      simp only [sSeq, sIf, sSet, sRet, sNext, sExpr, sAsg, sPar, sPar3, aB, aO, aU, aV, aC, aF, aIf, aAnd, aOr, aNot, aTAnd, aTOr, aTNot, aTr, aCh, aIs, aCall, aTup, aLst, aCons, aNil, aM1, aSl, pN, pS, withV, vals, sl, List.set_cons_zero, List.set_cons_succ, List.set_nil, Option.map_some, endP, endO, at0s, if_true, if_false, Bool.false_eq_true, isT, tyS, fI, fIC, fLenA, Bool.not_true, Bool.not_false, iS, iL, iT, reduceCtorEq, oInA, oInS]
      rw [show (Str.ofString "0123456789").cps.toList = tl FIG from rfl, fig_has c]
      exact q
    · simp only [sSeq, sIf, sSet, sRet, sNext, sExpr, sAsg, sPar, sPar3, aB, aO, aU, aV, aC, aF, aIf, aAnd, aOr, aNot, aTAnd, aTOr, aTNot, aTr, aCh, aIs, aCall, aTup, aLst, aCons, aNil, aM1, aSl, pN, pS, withV, vals, sl, List.set_cons_zero, List.set_cons_succ, List.set_nil, Option.map_some, endP, endO, at0s, if_true, if_false, Bool.false_eq_true, isT, tyS, fI, fIC, fLenA, Bool.not_true, Bool.not_false, iS, iL, iT, reduceCtorEq, fAll, bls_map]
      rw [signs_map digc, show ((tl g).map digc).all _root_.id = digs (bare (tl w)) by rw [hg, digs, List.all_map]; rfl]
      cases hd : digs (bare (tl w)) with
      | false =>
        simp only [Bool.not_false, if_true]
        rw [whL, if_pos (by right; right; exact hd)] at p
        exact p
      | true =>
        simp only [Bool.not_true, if_false, Bool.false_eq_true]
        rw [hK2]
        refine seq_k fun K3 hK3 => ?_
        simp only [sSeq, sIf, sSet, sRet, sNext, sExpr, sAsg, sPar, sPar3, aB, aO, aU, aV, aC, aF, aIf, aAnd, aOr, aNot, aTAnd, aTOr, aTNot, aTr, aCh, aIs, aCall, aTup, aLst, aCons, aNil, aM1, aSl, pN, pS, withV, vals, sl, List.set_cons_zero, List.set_cons_succ, List.set_nil, Option.map_some, endP, endO, at0s, if_true, if_false, Bool.false_eq_true, isT, tyS, fI, fIC, fLenA, Bool.not_true, Bool.not_false, iS, iL, iT, reduceCtorEq, oIx, oIxS]
        refine ⟨by omega, ?_⟩
        rw [show g.cps.toList = bare (tl w) from hg, atI0]
        have c1' : bare (tl w) ≠ [] := fun z => by rw [z] at lg'; simp at lg'; omega
        rw [whL, if_neg (by rintro (z | z | z); omega; omega; rw [hd] at z; cases z)] at p
        cases hb : bare (tl w) with
        | nil => exact absurd hb c1'
        | cons c r =>
          have e1 : ((⟨#[c]⟩ : Str) = Str.ofString "0") ↔ c = 48 := by rw [zero_is]; simp
          have fin : P (.int (valL (tl w))) → K3 [some (.str w), some (.str g), none] := fun q => by
            rw [hK3]
            simp only [sSeq, sIf, sSet, sRet, sNext, sExpr, sAsg, sPar, sPar3, aB, aO, aU, aV, aC, aF, aIf, aAnd, aOr, aNot, aTAnd, aTOr, aTNot, aTr, aCh, aIs, aCall, aTup, aLst, aCons, aNil, aM1, aSl, pN, pS, withV, vals, sl, List.set_cons_zero, List.set_cons_succ, List.set_nil, Option.map_some, endP, endO, at0s, if_true, if_false, Bool.false_eq_true, isT, tyS, fI, fIC, fLenA, Bool.not_true, Bool.not_false, iS, iL, iT, reduceCtorEq, fIntB]
            have wl : w.length ≤ 4001 := by
              rw [len_tl] at *
              have : (tl w).length ≤ (bare (tl w)).length + 1 := by unfold bare; split <;> simp <;> omega
              omega
            rw [int_valL c1' hd (by omega)]
            exact ⟨by omega, q⟩
          simp only [sSeq, sIf, sSet, sRet, sNext, sExpr, sAsg, sPar, sPar3, aB, aO, aU, aV, aC, aF, aIf, aAnd, aOr, aNot, aTAnd, aTOr, aTNot, aTr, aCh, aIs, aCall, aTup, aLst, aCons, aNil, aM1, aSl, pN, pS, withV, vals, sl, List.set_cons_zero, List.set_cons_succ, List.set_nil, Option.map_some, endP, endO, at0s, if_true, if_false, Bool.false_eq_true, isT, tyS, fI, fIC, fLenA, Bool.not_true, Bool.not_false, iS, iL, iT, reduceCtorEq, oEqA, oNeA, eqS, List.head?_cons, decide_eq_true_eq, e1, w_zero]
          rw [hb] at p
          simp only [List.head?_cons, Option.some.injEq] at p
          by_cases k1 : c = 48
          · by_cases k2 : tl w = [48]
            · rw [if_neg (by simp [k2])] at p
              simp only [k1, k2, decide_true, Bool.not_true, if_true, if_false, Bool.false_eq_true]
              exact fin p
            · rw [if_pos ⟨k1, k2⟩] at p
              simp only [k1, k2, decide_false, Bool.not_false, if_true]
              exact p
          · rw [if_neg (by simp [k1])] at p
            simp only [k1, if_false]
            exact fin p
  split
  · next c =>
    simp only [slA, slS]
    refine ⟨by omega, key _ ?_⟩
    have := cut_tail w 1
    simp only [decide_eq_true_eq] at c
    rw [bare, if_pos c]
    exact this
  · next c =>
    refine key _ ?_
    simp only [decide_eq_true_eq] at c
    rw [bare, if_neg c]
def S (l : List Nat) : Str := ⟨l.toArray⟩
theorem tl_S (l : List Nat) : tl (S l) = l := by simp [S, tl]
theorem S_tl (x : Str) : S (tl x) = x := str_ext (by simp [S, tl])
theorem len_S (l : List Nat) : (S l).length = l.length := by rw [len_tl, tl_S]
theorem S_ext {x : Str} {l : List Nat} (h : tl x = l) : x = S l := by rw [← h, S_tl]
theorem figures_ok {w : Str} (hb : w.length ≤ 100000) {P : D → Prop} {X : XP} (p : P (optI (whL (tl w)))) : F__law_figures [.str w] P X := by
  unfold F__law_figures B__law_figures
  refine seq_k fun K hK => ?_
  simp only [sSeq, sIf, sSet, sRet, sNext, sExpr, sAsg, sPar, sPar3, aB, aO, aU, aV, aC, aF, aIf, aAnd, aOr, aNot, aTAnd, aTOr, aTNot, aTr, aCh, aIs, aCall, aTup, aLst, aCons, aNil, aM1, aSl, pN, pS, withV, vals, sl, List.set_cons_zero, List.set_cons_succ, List.set_nil, Option.map_some, endP, endO, at0s, if_true, if_false, Bool.false_eq_true, isT, tyS, fI, fIC, fLenA, Bool.not_true, Bool.not_false, iS, iL, iT, reduceCtorEq, slA, slS, oEqA, eqS]
  have sz : (100000 : Nat) < sizeLine := by decide
  have e0 : (cutS w none (some 1) = Str.ofString "-") ↔ (tl w).head? = some 45 := by
    have := cut_head w 1
    have e : Str.ofString "-" = ⟨#[45]⟩ := by decide +kernel
    rw [e]
    constructor
    · intro z
      rw [show ((1 : Nat) : Int) = 1 from rfl] at this
      rw [z] at this
      cases hw : tl w with
      | nil => rw [hw] at this; cases this
      | cons a r => rw [hw] at this; simp [tl] at this; simp [← this]
    · intro z
      refine str_ext ?_
      cases hw : tl w with
      | nil => rw [hw] at z; cases z
      | cons a r => rw [hw] at z this; cases z; exact this
  have key : ∀ g : Str, tl g = bare (tl w) → K [some (.str w), some (.str g), none] := fun g hg => by
    have lg : g.length ≤ w.length := by
      rw [len_tl, len_tl, hg]; unfold bare; split <;> simp
    rw [hK]
    refine seq_k fun K2 hK2 => ?_
    simp only [sSeq, sIf, sSet, sRet, sNext, sExpr, sAsg, sPar, sPar3, aB, aO, aU, aV, aC, aF, aIf, aAnd, aOr, aNot, aTAnd, aTOr, aTNot, aTr, aCh, aIs, aCall, aTup, aLst, aCons, aNil, aM1, aSl, pN, pS, withV, vals, sl, List.set_cons_zero, List.set_cons_succ, List.set_nil, Option.map_some, endP, endO, at0s, if_true, if_false, Bool.false_eq_true, isT, tyS, fI, fIC, fLenA, Bool.not_true, Bool.not_false, iS, iL, iT, reduceCtorEq]
    refine ⟨by omega, ?_⟩
    have lg' : (g.length : Int) = (bare (tl w)).length := by rw [len_tl, hg]
    by_cases c1 : (1 : Int) ≤ g.length
    case neg =>
      simp only [c1, decide_false, Bool.not_false, if_true]
      rw [whL, if_pos (by omega)] at p
      exact p
    by_cases c2 : (g.length : Int) ≤ 4000
    case neg =>
      simp only [c1, c2, decide_false, decide_true, Bool.not_false, if_true]
      rw [whL, if_pos (by omega)] at p
      exact p
    simp only [c1, c2, decide_true, Bool.not_true, if_false, Bool.false_eq_true]
    refine aLc_fil (signsD g) (fun d => !digc (sgn d)) (fun Q q => by simp only [sSeq, sIf, sSet, sRet, sNext, sExpr, sAsg, sPar, sPar3, aB, aO, aU, aV, aC, aF, aIf, aAnd, aOr, aNot, aTAnd, aTOr, aTNot, aTr, aCh, aIs, aCall, aTup, aLst, aCons, aNil, aM1, aSl, pN, pS, withV, vals, sl, List.set_cons_zero, List.set_cons_succ, List.set_nil, Option.map_some, endP, endO, at0s, if_true, if_false, Bool.false_eq_true, isT, tyS, fI, fIC, fLenA, Bool.not_true, Bool.not_false, iS, iL, iT, reduceCtorEq]; exact q) (by rw [signsD_len]; omega) ?_ ?_ ?_
    · intro d hd Q q
      simp only [signsD, List.mem_map] at hd
      obtain ⟨c, hc, rfl⟩ := hd
      simp only [sSeq, sIf, sSet, sRet, sNext, sExpr, sAsg, sPar, sPar3, aB, aO, aU, aV, aC, aF, aIf, aAnd, aOr, aNot, aTAnd, aTOr, aTNot, aTr, aCh, aIs, aCall, aTup, aLst, aCons, aNil, aM1, aSl, pN, pS, withV, vals, sl, List.set_cons_zero, List.set_cons_succ, List.set_nil, Option.map_some, endP, endO, at0s, if_true, if_false, Bool.false_eq_true, isT, tyS, fI, fIC, fLenA, Bool.not_true, Bool.not_false, iS, iL, iT, reduceCtorEq, oInA, oInS]
      rw [show (Str.ofString "0123456789").cps.toList = tl FIG from rfl, fig_has c]
      exact q
    · intro d hd Q q
      simp only [sSeq, sIf, sSet, sRet, sNext, sExpr, sAsg, sPar, sPar3, aB, aO, aU, aV, aC, aF, aIf, aAnd, aOr, aNot, aTAnd, aTOr, aTNot, aTr, aCh, aIs, aCall, aTup, aLst, aCons, aNil, aM1, aSl, pN, pS, withV, vals, sl, List.set_cons_zero, List.set_cons_succ, List.set_nil, Option.map_some, endP, endO, at0s, if_true, if_false, Bool.false_eq_true, isT, tyS, fI, fIC, fLenA, Bool.not_true, Bool.not_false, iS, iL, iT, reduceCtorEq]
      exact q
    · have e2 : ((signsD g).filter (fun d => !digc (sgn d))).isEmpty = digs (bare (tl w)) := by
        rw [← hg, digs]
        have : digs (tl g) = ((signsD g).map (fun d => digc (sgn d))).all _root_.id := by rw [signs_map digc, digs, List.all_map]; rfl
        rw [← digs, this, List.all_map]
        generalize signsD g = l
        induction l with
        | nil => rfl
        | cons a l ih =>
          cases hc : digc (sgn a) with
          | true => rw [List.filter_cons_of_neg (by simp [hc])]; simp [hc, ih]
          | false => rw [List.filter_cons_of_pos (by simp [hc])]; simp [hc]
      simp only [sSeq, sIf, sSet, sRet, sNext, sExpr, sAsg, sPar, sPar3, aB, aO, aU, aV, aC, aF, aIf, aAnd, aOr, aNot, aTAnd, aTOr, aTNot, aTr, aCh, aIs, aCall, aTup, aLst, aCons, aNil, aM1, aSl, pN, pS, withV, vals, sl, List.set_cons_zero, List.set_cons_succ, List.set_nil, Option.map_some, endP, endO, at0s, if_true, if_false, Bool.false_eq_true, isT, tyS, fI, fIC, fLenA, Bool.not_true, Bool.not_false, iS, iL, iT, reduceCtorEq, oNeA, eqS, e2, Nat.zero_le, List.length_nil, true_and]
      cases hd : digs (bare (tl w)) with
      | false =>
        simp only [Bool.not_false, if_true]
        rw [whL, if_pos (by right; right; exact hd)] at p
        exact p
      | true =>
        simp only [Bool.not_true, if_false, Bool.false_eq_true]
        rw [hK2]
        simp only [sSeq, sIf, sSet, sRet, sNext, sExpr, sAsg, sPar, sPar3, aB, aO, aU, aV, aC, aF, aIf, aAnd, aOr, aNot, aTAnd, aTOr, aTNot, aTr, aCh, aIs, aCall, aTup, aLst, aCons, aNil, aM1, aSl, pN, pS, withV, vals, sl, List.set_cons_zero, List.set_cons_succ, List.set_nil, Option.map_some, endP, endO, at0s, if_true, if_false, Bool.false_eq_true, isT, tyS, fI, fIC, fLenA, Bool.not_true, Bool.not_false, iS, iL, iT, reduceCtorEq, oIx, oIxS]
        refine ⟨by omega, ?_⟩
        rw [show g.cps.toList = bare (tl w) from hg, atI0]
        have c1' : bare (tl w) ≠ [] := fun z => by rw [z] at lg'; simp at lg'; omega
        rw [whL, if_neg (by rintro (z | z | z); omega; omega; rw [hd] at z; cases z)] at p
        cases hb : bare (tl w) with
        | nil => exact absurd hb c1'
        | cons c r =>
          have e1 : ((⟨#[c]⟩ : Str) = Str.ofString "0") ↔ c = 48 := by rw [zero_is]; simp
          have fin : P (.int (valL (tl w))) → fIntB [.str w] P := fun q => by
            simp only [sSeq, sIf, sSet, sRet, sNext, sExpr, sAsg, sPar, sPar3, aB, aO, aU, aV, aC, aF, aIf, aAnd, aOr, aNot, aTAnd, aTOr, aTNot, aTr, aCh, aIs, aCall, aTup, aLst, aCons, aNil, aM1, aSl, pN, pS, withV, vals, sl, List.set_cons_zero, List.set_cons_succ, List.set_nil, Option.map_some, endP, endO, at0s, if_true, if_false, Bool.false_eq_true, isT, tyS, fI, fIC, fLenA, Bool.not_true, Bool.not_false, iS, iL, iT, reduceCtorEq, fIntB]
            have wl : w.length ≤ 4001 := by
              rw [len_tl] at *
              have : (tl w).length ≤ (bare (tl w)).length + 1 := by unfold bare; split <;> simp <;> omega
              omega
            rw [int_valL c1' hd (by omega)]
            exact ⟨by omega, q⟩
          simp only [sSeq, sIf, sSet, sRet, sNext, sExpr, sAsg, sPar, sPar3, aB, aO, aU, aV, aC, aF, aIf, aAnd, aOr, aNot, aTAnd, aTOr, aTNot, aTr, aCh, aIs, aCall, aTup, aLst, aCons, aNil, aM1, aSl, pN, pS, withV, vals, sl, List.set_cons_zero, List.set_cons_succ, List.set_nil, Option.map_some, endP, endO, at0s, if_true, if_false, Bool.false_eq_true, isT, tyS, fI, fIC, fLenA, Bool.not_true, Bool.not_false, iS, iL, iT, reduceCtorEq, oEqA, oNeA, eqS, List.head?_cons, decide_eq_true_eq, e1, w_zero]
          rw [hb] at p
          simp only [List.head?_cons, Option.some.injEq] at p
          by_cases k1 : c = 48
          · by_cases k2 : tl w = [48]
            · rw [if_neg (by simp [k2])] at p
              simp only [k1, k2, decide_true, Bool.not_true, if_true, if_false, Bool.false_eq_true]
              exact fin p
            · rw [if_pos ⟨k1, k2⟩] at p
              simp only [k1, k2, decide_false, Bool.not_false, if_true]
              exact p
          · rw [if_neg (by simp [k1])] at p
            simp only [k1, if_false]
            exact fin p
  refine ⟨by omega, ?_⟩
  simp only [e0, decide_eq_true_eq]
  split
  · next c =>
    refine ⟨by omega, key _ ?_⟩
    have := cut_tail w 1
    rw [bare, if_pos c]
    exact this
  · next c =>
    refine key _ ?_
    rw [bare, if_neg c]
def allS : List (Option Int) → Option (List Int)
  | [] => some []
  | none :: _ => none
  | some i :: r => (allS r).map (i :: ·)
theorem in_non : ∀ os : List (Option Int), (∃ ns, allS os = some ns ∧ os.map optI = ns.map D.int ∧ inD .non (os.map optI) = false) ∨ (allS os = none ∧ inD .non (os.map optI) = true)
  | [] => .inl ⟨[], rfl, rfl, rfl⟩
  | none :: r => .inr ⟨rfl, rfl⟩
  | some i :: r => by
    rcases in_non r with ⟨ns, h1, h2, h3⟩ | ⟨h1, h2⟩
    · refine .inl ⟨i :: ns, by rw [allS, h1]; rfl, by rw [List.map_cons, h2]; rfl, ?_⟩
      rw [List.map_cons, inD, List.any_cons]
      rw [inD] at h3
      rw [h3]; rfl
    · refine .inr ⟨by rw [allS, h1]; rfl, ?_⟩
      rw [List.map_cons, inD, List.any_cons]
      rw [inD] at h2
      rw [h2]; simp
theorem flat_opt (os : List (Option Int)) : (os.map optI).all flatD = true := by
  rw [List.all_map, List.all_eq_true]
  intro o _
  cases o <;> rfl
theorem split58 (x : Str) : (Txt.split x (Str.ofString ":")).map tl = sp1 58 (tl x) := split_sp1 (by decide +kernel) (by decide +kernel)
def whD : D → D
  | .str w => optI (whL (tl w))
  | _ => .non
def wd (l : List Nat) : List Nat := l.takeWhile (· != 58)
def td (l : List Nat) : List Nat := (l.dropWhile (· != 58)).drop 1
theorem colon_no : ∀ {l : List Nat}, 58 ∉ l → wd l = l ∧ td l = []
  | [], _ => ⟨rfl, rfl⟩
  | a :: l, h => by
    have ha : a ≠ 58 := fun z => h (by simp [z])
    obtain ⟨h1, h2⟩ := colon_no (l := l) fun z => h (by simp [z])
    constructor
    · rw [wd, List.takeWhile_cons_of_pos (by simp [ha])]; exact congrArg (a :: ·) h1
    · rw [td, List.dropWhile_cons_of_pos (by simp [ha])]; exact h2
theorem colon_yes : ∀ {l : List Nat}, 58 ∈ l → l = wd l ++ 58 :: td l ∧ 58 ∉ wd l
  | [], h => by cases h
  | a :: l, h => by
    by_cases ha : a = 58
    · subst ha
      simp [wd, td]
    · have h' : 58 ∈ l := by
        rcases List.mem_cons.mp h with z | z
        · exact absurd z.symm ha
        · exact z
      obtain ⟨h1, h2⟩ := colon_yes h'
      have e1 : wd (a :: l) = a :: wd l := by rw [wd, List.takeWhile_cons_of_pos (by simp [ha])]; rfl
      have e2 : td (a :: l) = td l := by rw [td, List.dropWhile_cons_of_pos (by simp [ha])]; rfl
      rw [e1, e2]
      refine ⟨congrArg (a :: ·) h1, ?_⟩
      rw [List.mem_cons]
      rintro (z | z)
      · exact ha z.symm
      · exact h2 z
def wS (x : Str) : Str := S (wd (tl x))
def tS (x : Str) : Str := S (td (tl x))
theorem col_is : Str.ofString ":" = ⟨#[58]⟩ := by decide +kernel
theorem part_is (x : Str) : (Txt.partition x (Str.ofString ":")).1 = wS x ∧ (Txt.partition x (Str.ofString ":")).2.2 = tS x := by
  rw [col_is]
  by_cases h : 58 ∈ tl x
  · obtain ⟨h1, h2⟩ := colon_yes h
    obtain ⟨e1, _, e3⟩ := part_yes h1 h2
    exact ⟨S_ext e1, S_ext e3⟩
  · obtain ⟨h1, h2⟩ := colon_no h
    rw [part_no h]
    exact ⟨by rw [wS, h1, S_tl], by rw [tS, h2]; rfl⟩
theorem sp1_cut {c : Nat} {b : List Nat} : ∀ {a : List Nat}, c ∉ a → sp1 c (a ++ c :: b) = a :: sp1 c b
  | [], _ => sp1_hit b
  | d :: a, h => by
    obtain ⟨p, q, e1, e2⟩ := sp1_miss (c := c) (d := d) (a ++ c :: b) (fun z => h (by simp [z]))
    rw [sp1_cut (a := a) fun z => h (by simp [z])] at e1
    cases e1
    exact e2
theorem joinL_cons {c : Nat} {p : List Nat} {q : List (List Nat)} (h : q ≠ []) : joinL [c] (p :: q) = p ++ c :: joinL [c] q := by
  cases q with
  | nil => exact absurd rfl h
  | cons x y => simp [joinL]
theorem join_sp1 (c : Nat) : ∀ l : List Nat, joinL [c] (sp1 c l) = l
  | [] => rfl
  | d :: l => by
    by_cases e : d = c
    · subst e
      rw [sp1_hit, joinL_cons (sp1_ne _ _), join_sp1 d l]; rfl
    · obtain ⟨p, q, e1, e2⟩ := sp1_miss (c := c) (d := d) l e
      have ih := join_sp1 c l
      rw [e1] at ih
      rw [e2]
      cases q with
      | nil => simp [joinL] at ih ⊢; exact ih
      | cons x y => rw [joinL_cons (by simp)] at ih ⊢; rw [← ih]; rfl
theorem tl_Tjoin (g : Str) : ∀ ys : List Str, tl (Txt.join g ys) = joinL (tl g) (ys.map tl)
  | [] => rfl
  | x :: r => by
    show (Txt.join g (x :: r)).cps.toList = _
    rw [join_list]
    induction r generalizing x with
    | nil => simp [joinL, tl]
    | cons y r ih =>
      rw [List.map_cons, List.map_cons, List.flatten_cons, List.map_cons]
      show _ = tl x ++ (tl g ++ joinL (tl g) ((y :: r).map tl))
      rw [← ih y]
      simp [tl]
theorem sp1_sum (c : Nat) : ∀ l : List Nat, ((sp1 c l).map List.length).sum + (sp1 c l).length = l.length + 1
  | [] => rfl
  | d :: l => by
    have ih := sp1_sum c l
    by_cases e : d = c
    · subst e
      rw [sp1_hit]
      simp at ih ⊢; omega
    · obtain ⟨p, q, e1, e2⟩ := sp1_miss (c := c) (d := d) l e
      rw [e1] at ih
      rw [e2]
      simp at ih ⊢; omega
theorem td_len (l : List Nat) : (td l).length ≤ l.length := by
  rw [td, List.length_drop]
  have := (List.dropWhile_suffix (l := l) (· != 58)).length_le
  omega
theorem wS_len (x : Str) : (wS x).length ≤ x.length := by
  rw [wS, len_S, len_tl, wd]
  exact (List.takeWhile_prefix _).length_le
theorem tS_len (x : Str) : (tS x).length ≤ x.length := by
  rw [tS, len_S, len_tl, td, List.length_drop]
  have := (List.dropWhile_suffix (l := tl x) (· != 58)).length_le
  omega
theorem len_app (x y : Str) : (x ++ y).length = x.length + y.length := by rw [len_tl, tl_append, List.length_append, ← len_tl, ← len_tl]
theorem joinL_len (g : Nat) : ∀ ys : List (List Nat), (joinL [g] ys).length ≤ (ys.map List.length).sum + ys.length
  | [] => by simp [joinL]
  | p :: q => by
    by_cases h : q = []
    · subst h; simp [joinL]
    · rw [joinL_cons h]
      have := joinL_len g q
      simp at this ⊢
      omega
def numZ (i : Int) : List Nat := if i < 0 then 45 :: numL i.natAbs else numL i.natAbs
theorem tl_of (s : String) : tl (Str.ofString s) = s.toList.map Char.toNat := tl_ofString s
theorem tl_int (i : Int) : tl (Str.ofString (toString i)) = numZ i := by
  unfold numZ
  by_cases h : i < 0
  · rw [if_pos h, toString_neg h]
    have e : (0 - i) = ((i.natAbs : Nat) : Int) := by omega
    rw [tl_of, String.toList_append, List.map_append, ← tl_of, ← tl_of, e, tl_num, show tl (Str.ofString "-") = [45] by decide +kernel]
    rfl
  · rw [if_neg h]
    have e : i = ((i.natAbs : Nat) : Int) := by omega
    rw [e, tl_num]
    rfl
theorem numZ_free {i : Int} {c : Nat} (h : c ≠ 45) (h2 : c < 48 ∨ 57 < c) : c ∉ numZ i := by
  unfold numZ
  split
  · intro m
    rcases List.mem_cons.mp m with e | m
    · exact h e
    · exact numL_free h2 m
  · exact numL_free h2
theorem allS_some : ∀ ns : List Int, allS (ns.map some) = some ns
  | [] => rfl
  | n :: r => by rw [List.map_cons]; unfold allS; rw [allS_some r]; rfl
theorem split32 (x : Str) : (Txt.split x (Str.ofString " ")).map tl = sp1 32 (tl x) := split_sp1 (by decide +kernel) (by decide +kernel)
/-! ### numbers and their figures -/
/-- at most 4000 figures -/
def Fg (i : Int) : Prop := (numL i.natAbs).length ≤ 4000
theorem numZ_len {i : Int} {k : Nat} (k0 : 0 < k) (h : i.natAbs < 10 ^ k) : (numZ i).length ≤ k + 1 := by
  have := numL_len k0 h
  unfold numZ
  split
  · rw [List.length_cons]; omega
  · omega
theorem numZ_fg {i : Int} (h : Fg i) : (numZ i).length ≤ 4001 := by
  unfold Fg at h
  unfold numZ
  split
  · rw [List.length_cons]; omega
  · omega
theorem fg_of {i : Int} {k : Nat} (k0 : 0 < k) (k1 : k ≤ 4000) (h : i.natAbs < 10 ^ k) : Fg i := by
  have := numL_len k0 h
  unfold Fg
  omega
theorem whL_int {i : Int} (h : Fg i) : whL (numZ i) = some i := by
  have hl : (numL i.natAbs).length ≤ 4000 := h
  unfold numZ
  split
  · next c =>
    have hd := numL_digits i.natAbs
    have hb : bare (45 :: numL i.natAbs) = numL i.natAbs := if_pos rfl
    unfold whL
    rw [hb, if_neg, if_neg]
    · unfold valL
      rw [if_pos (show (45 :: numL i.natAbs).head? = some 45 from rfl), List.drop_one, List.tail_cons, numL_val]
      congr 1
      omega
    · rintro ⟨h1, _⟩
      have := numL_head h1
      omega
    · have := numL_ne i.natAbs
      rw [all_digs hd]
      rintro (h | h | h)
      · exact this (List.eq_nil_of_length_eq_zero h)
      · omega
      · cases h
  · next c =>
    rw [whL_num (by omega)]
    congr 1
    omega
theorem numL_pow : ∀ n : Nat, n < 10 ^ (numL n).length := fun n => by
  induction n using Nat.strongRecOn with
  | _ n ih =>
    by_cases h : n < 10
    · rw [numL_lt h]; exact h
    · rw [numL_step (by omega), List.length_append, List.length_singleton, Nat.pow_succ]
      have := ih (n / 10) (by omega)
      omega
set_option exponentiation.threshold 5000 in
theorem fg_pow {i : Int} (h : Fg i) : i.natAbs < 10 ^ 4300 := by
  have h1 := numL_pow i.natAbs
  have h2 : 10 ^ (numL i.natAbs).length ≤ 10 ^ 4300 := Nat.pow_le_pow_right (by decide) (by unfold Fg at h; omega)
  exact Nat.lt_of_lt_of_le h1 h2
/-- figures without a zero ahead are the figures of their number -/
theorem numL_back : ∀ (n : Nat) (l : List Nat), l.length = n + 1 → digs l = true → (l.head? = some 48 → l = [48]) → numL (digitsVal l) = l
  | 0, l, hl, hd, _ => by
    match l, hl with
    | [c], _ =>
      have hc := digs_all hd c (by simp)
      have e : digitsVal [c] = c - 48 := by
        have := NumText.digitsVal_snoc [] c
        simpa [digitsVal] using this
      rw [e, numL_lt (by omega)]
      congr 1
      omega
  | n + 1, l, hl, hd, h0 => by
    obtain ⟨r, c, rfl⟩ : ∃ r c, l = r ++ [c] := by
      have hne : l ≠ [] := fun z => by rw [z] at hl; cases hl
      exact ⟨l.dropLast, l.getLast hne, (List.dropLast_concat_getLast hne).symm⟩
    rw [List.length_append, List.length_singleton] at hl
    have hc := digs_all hd c (by simp)
    have hr : digs r = true := by
      unfold digs at hd ⊢
      rw [List.all_append, Bool.and_eq_true] at hd
      exact hd.1
    match r, hl, hr, h0 with
    | a :: r, hl, hr, h0 =>
      have ha := digs_all hr a (by simp)
      have a1 : a ≠ 48 := fun z => by
        have := h0 (by rw [z]; rfl)
        have := congrArg List.length this
        simp at this
      have ih := numL_back n (a :: r) (by omega) hr (fun z => absurd (by simpa using z) a1)
      have hp : 0 < digitsVal (a :: r) := NumText.digitsVal_pos (by omega)
      rw [NumText.digitsVal_snoc, numL_step (by omega)]
      have e1 : (digitsVal (a :: r) * 10 + (c - 48)) / 10 = digitsVal (a :: r) := by omega
      have e2 : (digitsVal (a :: r) * 10 + (c - 48)) % 10 = c - 48 := by omega
      rw [e1, e2, ih]
      congr 2
      omega
theorem whL_inv {w : List Nat} {i : Int} (h : whL w = some i) : numZ i = w ∧ Fg i := by
  unfold whL at h
  split at h
  · cases h
  · next c =>
    split at h
    · cases h
    · next c2 =>
      have c1 : ¬ (bare w).length = 0 := fun z => c (.inl z)
      have c3 : (bare w).length ≤ 4000 := by omega
      have hd : digs (bare w) = true := by
        cases z : digs (bare w) with
        | true => rfl
        | false => exact absurd (.inr (.inr z)) c
      injection h with h
      unfold valL at h
      by_cases k : w.head? = some 45
      · rw [if_pos k] at h
        have eb : bare w = w.drop 1 := if_pos k
        rw [eb] at c1 c3 c2 hd
        have ew : w = 45 :: w.drop 1 := by
          cases w with
          | nil => cases k
          | cons a r => cases k; rfl
        have n48 : ¬ (w.drop 1).head? = some 48 := fun z => c2 ⟨z, fun z2 => by rw [z2] at k; cases k⟩
        have hb := numL_back ((w.drop 1).length - 1) (w.drop 1) (by omega) hd (fun z => absurd z n48)
        have h0 : 0 < digitsVal (w.drop 1) := by
          rcases Nat.eq_zero_or_pos (digitsVal (w.drop 1)) with z | z
          · rw [z] at hb
            exact absurd (by rw [← hb]; rfl) n48
          · exact z
        have ei : i.natAbs = digitsVal (w.drop 1) := by omega
        refine ⟨?_, ?_⟩
        · unfold numZ
          rw [if_pos (by omega), ei, hb]
          exact ew.symm
        · unfold Fg
          rw [ei, hb]; exact c3
      · rw [if_neg k] at h
        have eb : bare w = w := if_neg k
        rw [eb] at c1 c3 c2 hd
        have hb := numL_back (w.length - 1) w (by omega) hd (fun z => by
          by_cases e : w = [48]
          · exact e
          · exact absurd ⟨z, e⟩ c2)
        have ei : i.natAbs = digitsVal w := by omega
        refine ⟨?_, ?_⟩
        · unfold numZ
          rw [if_neg (by omega), ei, hb]
        · unfold Fg
          rw [ei, hb]; exact c3
theorem allS_inv : ∀ {ws : List (List Nat)} {ns : List Int}, allS (ws.map whL) = some ns → ws = ns.map numZ ∧ ∀ i ∈ ns, Fg i
  | [], ns, h => by cases h; exact ⟨rfl, fun _ h => absurd h (by simp)⟩
  | w :: ws, ns, h => by
    rw [List.map_cons] at h
    cases e : whL w with
    | none => rw [e] at h; cases h
    | some i =>
      rw [e] at h
      unfold allS at h
      cases e2 : allS (ws.map whL) with
      | none => rw [e2] at h; cases h
      | some ms =>
        rw [e2] at h
        cases h
        obtain ⟨h1, h2⟩ := allS_inv e2
        obtain ⟨h3, h4⟩ := whL_inv e
        refine ⟨by rw [List.map_cons, h3, ← h1], fun j hj => ?_⟩
        rcases List.mem_cons.mp hj with rfl | hj
        · exact h4
        · exact h2 j hj
theorem allS_len : ∀ {os : List (Option Int)} {ns : List Int}, allS os = some ns → ns.length = os.length
  | [], ns, h => by cases h; rfl
  | none :: r, ns, h => by cases h
  | some i :: r, ns, h => by
    unfold allS at h
    cases e : allS r with
    | none => rw [e] at h; cases h
    | some ms => rw [e] at h; cases h; simp [allS_len e]
/-! ### the text of a board, and reading -/
def ShOk (s : List Int) : Prop := s.length ≤ 6 ∧ ∀ x ∈ s, 0 ≤ x ∧ x ≤ 4000
instance (s : List Int) : Decidable (ShOk s) := inferInstanceAs (Decidable (_ ∧ _))
def bdL (s c : List Int) : List Nat := joinL [32] (s.map numZ) ++ 58 :: (c.map fun i => 32 :: numZ i).flatten
def shL (h : List Nat) : Option (List Int) := match (if h = [] then some [] else allS ((sp1 32 h).map whL)) with
  | some s => if ShOk s then some s else none
  | none => none
def clL (t : List Nat) : Option (List Int) := match sp1 32 t with
  | [] :: ws => allS (ws.map whL)
  | _ => none
def rdL (l : List Nat) : Option (List Int × List Int) := if 58 ∈ l then (match shL (wd l), clL (td l) with
  | some s, some c => if (c.length : Int) = prd s then some (s, c) else none
  | _, _ => none) else none
/-- a shape and as many cells, none of more than 4000 figures -/
structure Gb (s c : List Int) : Prop where
  sh : ShOk s
  ct : (c.length : Int) = prd s
  fg : ∀ i ∈ c, Fg i
theorem join_cons32 (c : List Int) : joinL [32] ([] :: c.map numZ) = (c.map fun i => 32 :: numZ i).flatten := by
  induction c with
  | nil => rfl
  | cons i c ih =>
    rw [List.map_cons, joinL_cons (by simp), List.map_cons, List.flatten_cons, List.nil_append]
    cases c with
    | nil => simp [joinL]
    | cons j c =>
      rw [List.map_cons, joinL_cons (by simp)] at ih ⊢
      rw [List.nil_append] at ih
      rw [List.cons_append, ← ih]
theorem shL_inv {h : List Nat} {s : List Int} (e : shL h = some s) : h = joinL [32] (s.map numZ) ∧ ShOk s := by
  unfold shL at e
  by_cases hh : h = []
  · subst hh
    rw [if_pos rfl] at e
    dsimp only at e
    split at e
    · next k => cases e; exact ⟨rfl, k⟩
    · cases e
  · rw [if_neg hh] at e
    cases e2 : allS ((sp1 32 h).map whL) with
    | none => rw [e2] at e; cases e
    | some t =>
      rw [e2] at e
      dsimp only at e
      split at e
      · next k =>
        cases e
        obtain ⟨h1, _⟩ := allS_inv e2
        exact ⟨by rw [← h1, join_sp1], k⟩
      · cases e
theorem clL_inv {t : List Nat} {c : List Int} (e : clL t = some c) : t = (c.map fun i => 32 :: numZ i).flatten ∧ ∀ i ∈ c, Fg i := by
  unfold clL at e
  split at e
  · next ws hs =>
    obtain ⟨h1, h2⟩ := allS_inv e
    refine ⟨?_, h2⟩
    rw [← join_sp1 32 t, hs, h1, join_cons32]
  · cases e
theorem rdL_inv {l : List Nat} {s c : List Int} (e : rdL l = some (s, c)) : l = bdL s c ∧ Gb s c := by
  unfold rdL at e
  split at e
  · next h58 =>
    cases e1 : shL (wd l) with
    | none => rw [e1] at e; cases e
    | some s' =>
      cases e2 : clL (td l) with
      | none => rw [e1, e2] at e; cases e
      | some c' =>
        rw [e1, e2] at e
        dsimp only at e
        split at e
        · next hc =>
          cases e
          obtain ⟨h1, h2⟩ := shL_inv e1
          obtain ⟨h3, h4⟩ := clL_inv e2
          refine ⟨?_, h2, hc, h4⟩
          rw [(colon_yes h58).1, h1, h3]
          rfl
        · cases e
  · cases e
theorem sh_fg {s : List Int} (h : ShOk s) : ∀ i ∈ s, Fg i := fun i hi => fg_of (k := 4) (by decide) (by decide) (by have := h.2 i hi; omega)
theorem mem_joinL {c g : Nat} : ∀ {ps : List (List Nat)}, c ≠ g → (∀ p ∈ ps, c ∉ p) → c ∉ joinL [g] ps
  | [], _, _ => by simp [joinL]
  | p :: q, hg, h => by
    by_cases hq : q = []
    · subst hq
      simp only [joinL, List.map_nil, List.flatten_nil, List.append_nil]
      exact h p (by simp)
    · rw [joinL_cons hq, List.mem_append, List.mem_cons]
      rintro (z | z | z)
      · exact h p (by simp) z
      · exact hg z
      · exact mem_joinL hg (fun p hp => h p (by simp [hp])) z
theorem whL_all {ns : List Int} (h : ∀ i ∈ ns, Fg i) : (ns.map numZ).map whL = ns.map some := by
  rw [List.map_map]
  exact List.map_congr_left fun i hi => whL_int (h i hi)
theorem rdL_bd {s c : List Int} (g : Gb s c) : rdL (bdL s c) = some (s, c) := by
  have n58 : (58 : Nat) ∉ joinL [32] (s.map numZ) := mem_joinL (by decide) fun p hp => by
    obtain ⟨i, _, rfl⟩ := List.mem_map.mp hp
    exact numZ_free (by decide) (.inr (by decide))
  have hw : wd (bdL s c) = joinL [32] (s.map numZ) := by
    unfold wd bdL
    rw [List.takeWhile_append_of_pos (by intro a ha; simp; exact fun z => n58 (z ▸ ha))]
    simp
  have ht : td (bdL s c) = (c.map fun i => 32 :: numZ i).flatten := by
    unfold td bdL
    rw [List.dropWhile_append_of_pos (by intro a ha; simp; exact fun z => n58 (z ▸ ha))]
    simp
  have hm : 58 ∈ bdL s c := by unfold bdL; simp
  have e1 : shL (joinL [32] (s.map numZ)) = some s := by
    unfold shL
    by_cases hs : s = []
    · subst hs
      have e0 : joinL [32] (List.map numZ []) = [] := rfl
      rw [e0, if_pos rfl]
      exact if_pos g.sh
    · have hn : ∀ i, numZ i ≠ [] := fun i z => by
        have := numL_ne i.natAbs
        unfold numZ at z
        split at z
        · cases z
        · exact this z
      have hj : joinL [32] (s.map numZ) ≠ [] := by
        cases s with
        | nil => exact absurd rfl hs
        | cons a r =>
          rw [List.map_cons]
          by_cases hr : r.map numZ = []
          · rw [hr]; simp [joinL]; exact hn a
          · rw [joinL_cons hr]; simp
      rw [if_neg hj, sp1_join (by simpa using hs) (fun p hp => by
        obtain ⟨i, _, rfl⟩ := List.mem_map.mp hp
        exact numZ_free (by decide) (.inl (by decide))), whL_all (sh_fg g.sh), allS_some]
      exact if_pos g.sh
  have e2 : clL ((c.map fun i => 32 :: numZ i).flatten) = some c := by
    unfold clL
    rw [← join_cons32, sp1_join (by simp) (fun p hp => by
      rcases List.mem_cons.mp hp with rfl | hp
      · simp
      · obtain ⟨i, _, rfl⟩ := List.mem_map.mp hp
        exact numZ_free (by decide) (.inl (by decide)))]
    dsimp only
    rw [whL_all g.fg, allS_some]
  unfold rdL
  rw [if_pos hm, hw, ht, e1, e2]
  exact if_pos g.ct
end Cr

namespace Cr
open PySem PySem.Builtin PySem.Builtin.Str PyProof.Rows L2 Al TL NumText
open Lean in
local macro_rules
  | `(tactic| fail $s:str) => match s.getString with
    | "side" => `(tactic| first | assumption | exact trivial | exact rfl | omega | (simp only [List.length_map, List.length_cons, List.length_nil, List.length_append, List.length_replicate, List.length_range, List.length_take, List.length_drop, List.length_reverse, List.length_set]; omega) | decide | (simp only [List.length_map, List.length_cons, List.length_nil, List.length_append, List.length_replicate, List.length_range]; decide) | exact mul_small (by omega) | exact mul_small' (by omega))
    | "one" => `(tactic| first | fail "one0" | fail "one1" | fail "one2" | fail "one3" | fail "one4" | fail "one5" | fail "one6" | fail "one7" | fail "one8" | fail "one9" | fail "one10" | fail "one11" | fail "one12" | fail "one13" | fail "one14" | fail "one15" | fail "one16")
    | "one0" => `(tactic| first | (with_reducible apply Al.goP) | (with_reducible apply Al.goO) | (with_reducible apply Al.goJ) | (with_reducible apply Al.goSeq) | (with_reducible apply Al.stSet) | (with_reducible apply Al.stExpr) | (with_reducible apply Al.stNext) | (with_reducible apply Al.stAsg))
    | "one1" => `(tactic| first | (with_reducible apply Al.goIf) | (with_reducible apply Al.goRet) | (with_reducible apply Al.goRetN) | (with_reducible apply Al.goFor) | (with_reducible apply Al.goFor0) | (with_reducible apply Al.goAug) | (with_reducible apply Al.goParO) | (with_reducible apply Al.stPar))
    | "one2" => `(tactic| first | (with_reducible apply Al.goPar3) | (with_reducible apply Al.goIxS) | (with_reducible apply Al.goBrk) | (with_reducible apply Al.goCnt) | (with_reducible apply Al.stO) | (with_reducible apply Al.stC) | (with_reducible apply Al.stNil) | (with_reducible apply Al.stCons))
    | "one3" => `(tactic| first | (with_reducible apply Al.stW0) | (with_reducible apply Al.stW1) | (with_reducible apply Al.stW2) | (with_reducible apply Al.stW3) | (with_reducible apply Al.stW4) | (with_reducible apply Al.stW5) | (with_reducible apply Al.stW6) | (with_reducible apply Al.stTup))
    | "one4" => `(tactic| first | (with_reducible apply Al.stLst) | (with_reducible apply Al.stF) | (with_reducible apply Al.stCall) | (with_reducible apply Al.stCallD) | (with_reducible apply Al.stU) | (with_reducible apply Al.stSl) | (with_reducible apply Al.stpN) | (with_reducible apply Al.stpS))
    | "one5" => `(tactic| first | (with_reducible apply Al.onInt_i) | (with_reducible apply Al.onBl_i) | (with_reducible apply Al.onLst_i) | (with_reducible apply Al.onTup_i) | (with_reducible apply Al.onStr_i) | (with_reducible apply Al.onInt1_i) | (with_reducible apply Al.on2_i) | (with_reducible apply Al.on3_i))
    | "one6" => `(tactic| first | (with_reducible apply Al.onIns_i) | (with_reducible apply Al.onNon_i) | (with_reducible apply Al.stB) | (with_reducible apply Al.stTr) | (with_reducible apply Al.stTOr) | (with_reducible apply Al.stTAnd) | (with_reducible apply Al.stTNot) | (with_reducible apply Al.stAnd))
    | "one7" => `(tactic| first | (with_reducible apply Al.stOr) | (with_reducible apply Al.stNot) | (with_reducible apply Al.stIfE) | (with_reducible apply Al.stIs) | (with_reducible apply Al.stM1) | (with_reducible apply Al.stiL) | (with_reducible apply Al.stiT) | (with_reducible apply Al.goiR1))
    | "one8" => `(tactic| first | (with_reducible apply Al.goiS) | (with_reducible apply Al.goFld) | (with_reducible apply Al.goFldO) | (with_reducible apply Al.goCh) | (with_reducible apply Al.goIxO) | (with_reducible apply Al.goApp) | (with_reducible apply Al.goExt) | (with_reducible apply Al.goLenO))
    | "one9" => `(tactic| first | (with_reducible apply Al.goTupO) | (with_reducible apply Al.goRev) | (with_reducible apply Al.goEmpO) | (with_reducible apply Al.goMeth) | (with_reducible apply Al.goMake) | (with_reducible apply Al.goTy) | (with_reducible apply Al.goNm) | (with_reducible apply Al.goV))
    | "one10" => `(tactic| first | (with_reducible apply Al.goCallJ) | (with_reducible apply Al.if_t) | (with_reducible apply Al.if_f) | (with_reducible apply Al.if_tn) | (with_reducible apply Al.if_fn) | (with_reducible apply Al.if_T) | (with_reducible apply Al.opI) | (with_reducible apply Al.opAddI))
    | "one11" => `(tactic| first | (with_reducible apply Al.opEqI) | (with_reducible apply Al.opEqS) | (with_reducible apply Al.opEqE) | (with_reducible apply Al.opNeI) | (with_reducible apply Al.opNeS) | (with_reducible apply Al.opNeE) | (with_reducible apply Al.opEqT) | (with_reducible apply Al.opNeT))
    | "one12" => `(tactic| first | (with_reducible apply Al.opNeg) | (with_reducible apply Al.opIxL) | (with_reducible apply Al.opIxT) | (with_reducible apply Al.opSlT) | (with_reducible apply Al.opSlL) | (with_reducible apply Al.opLenL) | (with_reducible apply Al.opLenT) | (with_reducible apply Al.opLenC))
    | "one13" => `(tactic| first | (with_reducible apply Al.opStrS) | (with_reducible apply Al.opTupL) | (with_reducible apply Al.opTupT) | (with_reducible apply Al.opLstT) | (with_reducible apply Al.opLstL) | (with_reducible apply Al.opEqN) | (with_reducible apply Al.opIsN_i) | (with_reducible apply Al.opIsN_s))
    | "one14" => `(tactic| first | (with_reducible apply Al.opIsN_t) | (with_reducible apply Al.opIsN_l) | (with_reducible apply Al.opNotN_i) | (with_reducible apply Al.opNotN_n) | (with_reducible apply Al.opMax) | (with_reducible apply Al.opMin) | (with_reducible apply Al.opAbs) | (with_reducible apply Al.opIntI))
    | "one15" => `(tactic| first | (with_reducible apply Al.opIntB) | (with_reducible apply Al.opRevL) | (with_reducible apply Al.opRevT) | (with_reducible apply Al.ifNN) | (with_reducible apply Al.goDisp) | (with_reducible apply Al.goDgo0) | (with_reducible apply Al.goDgo) | (with_reducible apply Al.at0c))
    | "one16" => `(tactic| first | (with_reducible apply Al.at0m) | (with_reducible apply Al.at1c) | (with_reducible apply Al.at2c) | (with_reducible apply Al.at3c))
    | "rfl" => `(tactic| first | fail "rfl0" | fail "rfl1")
    | "rfl0" => `(tactic| first | ((with_reducible apply Al.stW); exact rfl) | ((with_reducible apply Al.stV); exact rfl) | ((with_reducible apply Al.stM); exact rfl) | ((with_reducible apply Al.goWL); exact rfl) | ((with_reducible apply Al.goWD); exact rfl) | ((with_reducible apply Al.goAt0); exact rfl) | ((with_reducible apply Al.goAtj); exact rfl) | ((with_reducible apply Al.onSome_i); exact rfl))
    | "rfl1" => `(tactic| first | ((with_reducible apply Al.goTp); exact rfl) | ((with_reducible apply Al.goOwn); exact rfl) | ((with_reducible apply Al.goWJ); exact rfl) | ((with_reducible apply Al.stCallO); exact rfl))
    | "conj" => `(tactic| first | fail "conj0" | fail "conj1")
    | "conj0" => `(tactic| first | (with_reducible apply Al.opIC) | (with_reducible apply Al.opAddS) | (with_reducible apply Al.opAddT) | (with_reducible apply Al.opAddL) | (with_reducible apply Al.opMulI) | (with_reducible apply Al.opSlS) | (with_reducible apply Al.opLenS) | (with_reducible apply Al.opStrI))
    | "conj1" => `(tactic| first | ((with_reducible refine And.intro ?_ ?_); fail "side") | ((with_reducible apply Al.goStL); fail "side") | ((with_reducible apply Al.goStT); fail "side"))
    | "ifs" => `(tactic| first | ((with_reducible apply Al.ifT); fail "side") | ((with_reducible apply Al.ifF); fail "side") | ((with_reducible apply Al.ifTn); fail "side") | ((with_reducible apply Al.ifFn); fail "side") | ((with_reducible apply Al.ifT'); fail "side") | ((with_reducible apply Al.ifF'); fail "side") | ((with_reducible apply Al.ifTb); exact rfl) | ((with_reducible apply Al.ifFb); exact rfl))
    | "norm" => `(tactic| simp only [List.set_cons_zero, List.set_cons_succ, Al.setAll_c, Al.setAll_0, Int.toNat_natCast, Al.cut1c, Al.cut1m, Al.cutAll, List.cons_append, List.nil_append])
    | "step" => `(tactic| first | fail "one" | fail "rfl" | fail "norm" | fail "conj" | fail "ifs")
    | _ => Macro.throwUnsupported

def optS : Option (List Int) → D
  | some s => ti s
  | none => .non
theorem spl32 (x : Str) : ((Txt.split x (Str.ofString " ")).map D.str).map whD = ((sp1 32 (tl x)).map whL).map optI := by
  rw [← split32, List.map_map, List.map_map, List.map_map]
  rfl
theorem spl_len (x : Str) : (Txt.split x (Str.ofString " ")).length = (tl x).count 32 + 1 := by
  have := congrArg List.length (split32 x)
  rw [List.length_map, sp1_len] at this
  exact this
theorem spl_mem {x w : Str} (h : w ∈ Txt.split x (Str.ofString " ")) : w.length ≤ x.length := by
  have h1 : tl w ∈ sp1 32 (tl x) := by rw [← split32]; exact List.mem_map_of_mem h
  have := (sp1_mem 32 _ _ h1).2.len
  rw [len_tl, len_tl]
  exact this
theorem opt_typed (os : List (Option Int)) : ∀ d ∈ os.map optI, typed d = true := fun d hd => by
  obtain ⟨o, _, rfl⟩ := List.mem_map.mp hd
  cases o <;> rfl
theorem isz_some : ∀ s : List Int, (s.map D.int).all isz = decide (∀ x ∈ s, 0 ≤ x ∧ x ≤ 4000)
  | [] => rfl
  | a :: s => by
    rw [List.map_cons, List.all_cons, isz_some s]
    show ((decide (0 ≤ a) && decide (a ≤ 4000)) && _) = _
    simp only [List.forall_mem_cons, Bool.decide_and]
theorem isz_none : ∀ os : List (Option Int), allS os = none → (os.map optI).all isz = false
  | [], h => by cases h
  | none :: r, _ => rfl
  | some i :: r, h => by
    have : allS r = none := by
      unfold allS at h
      cases e : allS r with
      | none => rfl
      | some t => rw [e] at h; cases h
    rw [List.map_cons, List.all_cons, isz_none r this, Bool.and_false]
theorem empty_tl {x : Str} : (x = Str.ofString "") ↔ tl x = [] := by
  have e : Str.ofString "" = ⟨#[]⟩ := by decide +kernel
  rw [e]
  constructor
  · rintro rfl; rfl
  · intro h; exact str_ext h
theorem shape_in_ok {x : Str} (hb : x.length ≤ 100000) {P : D → Prop} {X : XP} (p : P (optS (shL (tl x)))) : F_shape_in [.str x] P X := by
  have sz : (100002 : Nat) < sizeLine := by decide
  have kw := @whole_in_ok
  have ks := @shape_gen
  unfold F_shape_in B_shape_in
  generalize F_whole_in = F1 at kw ⊢
  generalize F_is_shape = F2 at ks ⊢
  refine seq_k fun K hK => ?_
  simp only [sSeq, sIf, sSet, sRet, sNext, sExpr, sAsg, sPar, sPar3, aB, aO, aU, aV, aC, aF, aIf, aAnd, aOr, aNot, aTAnd, aTOr, aTNot, aTr, aCh, aIs, aCall, aTup, aLst, aCons, aNil, aM1, aSl, pN, pS, withV, vals, sl, List.set_cons_zero, List.set_cons_succ, List.set_nil, Option.map_some, endP, endO, at0s, if_true, if_false, Bool.false_eq_true, isT, tyS, fI, fIC, fLenA, Bool.not_true, Bool.not_false, iS, iL, iT, reduceCtorEq, oEqA, eqS]
  by_cases he : tl x = []
  · rw [if_pos (by rw [decide_eq_true_eq]; exact empty_tl.mpr he)]
    rw [shL, if_pos he] at p
    exact ⟨Nat.zero_le _, p⟩
  rw [if_neg (by rw [decide_eq_true_eq]; exact fun z => he (empty_tl.mp z)), hK]
  clear hK
  rw [shL, if_neg he] at p
  refine seq_k fun K hK => ?_
  simp only [sSeq, sIf, sSet, sRet, sNext, sExpr, sAsg, sPar, sPar3, aB, aO, aU, aV, aC, aF, aIf, aAnd, aOr, aNot, aTAnd, aTOr, aTNot, aTr, aCh, aIs, aCall, aTup, aLst, aCons, aNil, aM1, aSl, pN, pS, withV, vals, sl, List.set_cons_zero, List.set_cons_succ, List.set_nil, Option.map_some, endP, endO, at0s, if_true, if_false, Bool.false_eq_true, isT, tyS, fI, fIC, fLenA, Bool.not_true, Bool.not_false, iS, iL, iT, reduceCtorEq]
  have hc := List.count_le_length (a := 32) (l := tl x)
  have hl := spl_len x
  rw [len_tl] at hb
  refine aLc_map ((Txt.split x (Str.ofString " ")).map D.str) whD (fun Q q => ?_) ?_ ?_ ?_
  · simp only [sSeq, sIf, sSet, sRet, sNext, sExpr, sAsg, sPar, sPar3, aB, aO, aU, aV, aC, aF, aIf, aAnd, aOr, aNot, aTAnd, aTOr, aTNot, aTr, aCh, aIs, aCall, aTup, aLst, aCons, aNil, aM1, aSl, pN, pS, withV, vals, sl, List.set_cons_zero, List.set_cons_succ, List.set_nil, Option.map_some, endP, endO, at0s, if_true, if_false, Bool.false_eq_true, isT, tyS, fI, fIC, fLenA, Bool.not_true, Bool.not_false, iS, iL, iT, reduceCtorEq, mSplit]
    exact ⟨⟨by decide +kernel, by rw [len_tl]; omega⟩, q⟩
  · rw [List.length_map]; omega
  · intro d hd Q q
    obtain ⟨w, hw, rfl⟩ := List.mem_map.mp hd
    simp only [sSeq, sIf, sSet, sRet, sNext, sExpr, sAsg, sPar, sPar3, aB, aO, aU, aV, aC, aF, aIf, aAnd, aOr, aNot, aTAnd, aTOr, aTNot, aTr, aCh, aIs, aCall, aTup, aLst, aCons, aNil, aM1, aSl, pN, pS, withV, vals, sl, List.set_cons_zero, List.set_cons_succ, List.set_nil, Option.map_some, endP, endO, at0s, if_true, if_false, Bool.false_eq_true, isT, tyS, fI, fIC, fLenA, Bool.not_true, Bool.not_false, iS, iL, iT, reduceCtorEq]
    have := spl_mem hw
    rw [len_tl x] at this
    exact kw (by omega) q
  rw [spl32]
  simp only [sSeq, sIf, sSet, sRet, sNext, sExpr, sAsg, sPar, sPar3, aB, aO, aU, aV, aC, aF, aIf, aAnd, aOr, aNot, aTAnd, aTOr, aTNot, aTr, aCh, aIs, aCall, aTup, aLst, aCons, aNil, aM1, aSl, pN, pS, withV, vals, sl, List.set_cons_zero, List.set_cons_succ, List.set_nil, Option.map_some, endP, endO, at0s, if_true, if_false, Bool.false_eq_true, isT, tyS, fI, fIC, fLenA, Bool.not_true, Bool.not_false, iS, iL, iT, reduceCtorEq, fTuple]
  rw [hK]
  simp only [sSeq, sIf, sSet, sRet, sNext, sExpr, sAsg, sPar, sPar3, aB, aO, aU, aV, aC, aF, aIf, aAnd, aOr, aNot, aTAnd, aTOr, aTNot, aTr, aCh, aIs, aCall, aTup, aLst, aCons, aNil, aM1, aSl, pN, pS, withV, vals, sl, List.set_cons_zero, List.set_cons_succ, List.set_nil, Option.map_some, endP, endO, at0s, if_true, if_false, Bool.false_eq_true, isT, tyS, fI, fIC, fLenA, Bool.not_true, Bool.not_false, iS, iL, iT, reduceCtorEq]
  have hs : (sp1 32 (tl x)).length = (tl x).count 32 + 1 := sp1_len _ _
  refine ks rfl (fun ds e => ?_) ?_
  · cases e
    refine ⟨by rw [List.length_map, List.length_map]; omega, opt_typed _⟩
  rcases in_non ((sp1 32 (tl x)).map whL) with ⟨ns, h1, h2, h3⟩ | ⟨h1, h2⟩
  · rw [h1] at p
    rw [h2]
    show (if (decide ((ns.map D.int).length ≤ 6) && (ns.map D.int).all isz) = true then _ else _)
    rw [isz_some, List.length_map, ← Bool.decide_and]
    dsimp only at p
    by_cases k : ShOk ns
    · rw [decide_eq_true (show ns.length ≤ 6 ∧ ∀ x ∈ ns, 0 ≤ x ∧ x ≤ 4000 from k), if_pos rfl]
      rw [if_pos k] at p
      exact p
    · rw [decide_eq_false (show ¬ (ns.length ≤ 6 ∧ ∀ x ∈ ns, 0 ≤ x ∧ x ≤ 4000) from k), if_neg (by decide)]
      rw [if_neg k] at p
      exact p
  · rw [h1] at p
    show (if (decide _ && (((sp1 32 (tl x)).map whL).map optI).all isz) = true then _ else _)
    rw [isz_none _ h1, Bool.and_false, if_neg (by decide)]
    exact p
theorem star1 (x : D) (l : List D) : starD 2 1 (x :: l) = [x, .lst l] := by
  unfold starD
  simp
theorem isN_n {P : D → Prop} (q : P (.bl true)) : oIsN .non .non P := q
theorem isN_s {s : List Int} {P : D → Prop} (q : P (.bl false)) : oIsN (optS (some s)) .non P := q
theorem part_col (x : Str) : (Txt.partition x (Str.ofString ":")).2.1 = if 58 ∈ tl x then Str.ofString ":" else Str.ofString "" := by
  rw [col_is]
  by_cases h : 58 ∈ tl x
  · obtain ⟨h1, h2⟩ := colon_yes h
    obtain ⟨_, e2, _⟩ := part_yes h1 h2
    rw [if_pos h, e2]
  · rw [part_no h, if_neg h]
    show Str.empty = Str.ofString ""
    decide +kernel
theorem count_td (c : Nat) (l : List Nat) : (td l).count c ≤ l.count c := by
  unfold td
  exact List.Sublist.count_le _ ((List.drop_sublist 1 _).trans (List.dropWhile_sublist _))
theorem tl_tS (x : Str) : tl (tS x) = td (tl x) := by rw [tS, tl_S]
theorem tl_wS (x : Str) : tl (wS x) = wd (tl x) := by rw [wS, tl_S]
theorem words_whD (ys : List Str) : (ys.map D.str).map whD = ((ys.map tl).map whL).map optI := by
  rw [List.map_map, List.map_map, List.map_map]
  rfl
theorem inNon {es : List D} {b : Bool} {P : D → Prop} (h1 : es.all flatD = true) (h2 : inD .non es = b) (q : P (.bl b)) : oInA false .non (.lst es) P := by
  refine ⟨⟨rfl, h1⟩, ?_⟩
  rw [if_neg (by decide), h2]
  exact q
theorem shL_ok {h : List Nat} {s : List Int} (e : shL h = some s) : Sz s ∧ s.length ≤ 6 := ⟨(shL_inv e).2.2, (shL_inv e).2.1⟩
theorem raise1 {nx : Ev → Prop} {rt : D → Ev → Prop} {bk ct : Ev → Prop} {X : XP} {ρ : Ev} {d : D} (e : sl ρ 0 = some d) (h : X (.exc 1 [d])) : sRaise 1 1 (aCons (aV 0) aNil) ⟨nx, rt, bk, ct, X⟩ ρ := by
  unfold sRaise aCons aNil aV
  simp only [e]
  exact ⟨rfl, h⟩
theorem read_ok {x : Str} (hb : x.length ≤ 100000) (hs : (tl x).count 32 ≤ 10000) {P : D → Prop} {X : XP} (p1 : ∀ s c, rdL (tl x) = some (s, c) → P (ar s c)) (p2 : rdL (tl x) = none → X (.exc 1 [.str x])) : F_read_array [.str x] P X := by
  have sz : (100002 : Nat) < sizeLine := by decide
  have kw := @whole_in_ok
  have k1 := @shape_in_ok
  have k2 := @count_ok
  have k3 := @init_ok
  unfold F_read_array B_read_array
  generalize F_whole_in = F1 at kw ⊢
  generalize F_shape_in = F2 at k1 ⊢
  generalize F_count = F3 at k2 ⊢
  generalize F_Array___init__ = F4 at k3 ⊢
  repeat (first | fail "step")
  refine ⟨⟨by decide +kernel, by omega⟩, ?_⟩
  rw [(part_is x).1, (part_is x).2]
  repeat (first | fail "step")
  refine k1 (by have := wS_len x; omega) ?_
  repeat (first | fail "step")
  refine ⟨⟨by decide +kernel, by have := tS_len x; omega⟩, ?_⟩
  obtain ⟨y0, ys, ey⟩ : ∃ y0 ys, Txt.split (tS x) (Str.ofString " ") = y0 :: ys := by
    cases h : Txt.split (tS x) (Str.ofString " ") with
    | nil => have := spl_len (tS x); rw [h] at this; simp at this
    | cons a b => exact ⟨a, b, rfl⟩
  have e32 : sp1 32 (td (tl x)) = tl y0 :: ys.map tl := by rw [← tl_tS, ← split32, ey, List.map_cons]
  have hn : ys.length ≤ 10000 := by
    have h1 := spl_len (tS x)
    have h2 := count_td 32 (tl x)
    rw [ey, List.length_cons, tl_tS] at h1
    omega
  rw [ey, List.map_cons]
  refine goStL (by simp only [List.length_cons, List.length_map, List.length_nil]; omega) ?_
  rw [show ([5, 6] : List Nat).length = 2 from rfl, star1]
  repeat (first | fail "step")
  refine aLc_map (ys.map D.str) whD (fun Q q => by repeat (first | fail "step"); exact q) (by rw [List.length_map]; omega) ?_ ?_
  · intro d hd Q q
    obtain ⟨w, hw, rfl⟩ := List.mem_map.mp hd
    have h1 : w ∈ Txt.split (tS x) (Str.ofString " ") := by rw [ey]; exact List.mem_cons_of_mem _ hw
    have h2 := spl_mem h1
    have h3 := tS_len x
    repeat (first | fail "step")
    exact kw (by omega) q
  rw [words_whD]
  have fl := flat_opt ((ys.map tl).map whL)
  repeat (first | fail "step")
  rw [part_col, tl_wS]
  unfold rdL at p1 p2
  by_cases h58 : 58 ∈ tl x
  case neg =>
    rw [if_neg h58] at p2 ⊢
    repeat (first | fail "step")
    exact raise1 rfl (p2 rfl)
  rw [if_pos h58] at p1 p2 ⊢
  rw [decide_eq_false (show ¬ Str.ofString ":" = Str.ofString "" by decide +kernel)]
  repeat (first | fail "step")
  cases hS : shL (wd (tl x)) with
  | none =>
    rw [hS] at p2
    refine isN_n ?_
    repeat (first | fail "step")
    exact raise1 rfl (p2 rfl)
  | some s =>
  rw [hS] at p1 p2
  obtain ⟨z1, z2⟩ := shL_ok hS
  refine isN_s ?_
  repeat (first | fail "step")
  unfold clL at p1 p2
  rw [e32] at p1 p2
  by_cases hy : tl y0 = []
  case neg =>
    rw [decide_eq_false (fun z => hy (empty_tl.mp z))]
    repeat (first | fail "step")
    refine raise1 rfl (p2 ?_)
    cases h : tl y0 with
    | nil => exact absurd h hy
    | cons a b => rfl
  rw [hy] at p1 p2
  rw [decide_eq_true (empty_tl.mpr hy)]
  dsimp only at p1 p2
  repeat (first | fail "step")
  rcases in_non ((ys.map tl).map whL) with ⟨ns, h1, h2, h3⟩ | ⟨h1, h2⟩
  case inr =>
    rw [h1] at p2
    refine inNon fl h2 ?_
    repeat (first | fail "step")
    exact raise1 rfl (p2 rfl)
  rw [h1] at p1 p2
  dsimp only at p1 p2
  refine inNon fl h3 ?_
  rw [h2]
  repeat (first | fail "step")
  refine k2 z1 z2 ?_
  rw [List.length_map]
  repeat (first | fail "step")
  by_cases hc : (ns.length : Int) = prd s
  · rw [decide_eq_true hc]
    rw [if_pos hc] at p1
    repeat (first | fail "step")
    exact k3 z1 z2 hc (.inl rfl) (p1 _ _ rfl)
  · rw [decide_eq_false hc]
    rw [if_neg hc] at p2
    repeat (first | fail "step")
    exact raise1 rfl (p2 rfl)
/-- no text -/
def noTx : D → Bool
  | .non => true | .bl _ => true | .int _ => true | .lst _ => true | .tup _ => true | .dic _ => true
  | _ => false
theorem read_no {d : D} (h : noTx d = true) {P : D → Prop} {X : XP} (p : X (.exc 1 [d])) : F_read_array [d] P X := by
  unfold F_read_array B_read_array
  cases d with
  | non => exact ⟨rfl, p⟩
  | bl _ => exact ⟨rfl, p⟩
  | int _ => exact ⟨rfl, p⟩
  | lst _ => exact ⟨rfl, p⟩
  | tup _ => exact ⟨rfl, p⟩
  | dic _ => exact ⟨rfl, p⟩
  | _ => cases h
theorem lread_no {d : D} (h : noTx d = true) {P : D → Prop} {X : XP} (p : P .non) : F__law_read [d] P X := by
  unfold F__law_read B__law_read
  cases d with
  | non => exact p
  | bl _ => exact p
  | int _ => exact p
  | lst _ => exact p
  | tup _ => exact p
  | dic _ => exact p
  | _ => cases h
theorem inCol {x : Str} {P : D → Prop} (q : P (.bl (!decide (58 ∈ tl x)))) : oInA true (.str (Str.ofString ":")) (.str x) P := by
  rw [col_is]
  exact q
theorem spl58 {x : Str} (h : 58 ∈ tl x) : ∃ hs, Txt.split x (Str.ofString ":") = wS x :: hs ∧ Txt.join (Str.ofString ":") hs = tS x ∧ (hs.map (·.length)).sum + hs.length ≤ x.length + 1 := by
  obtain ⟨h1, h2⟩ := colon_yes h
  have h3 := split58 x
  have h4 : sp1 58 (tl x) = wd (tl x) :: sp1 58 (td (tl x)) := (congrArg (sp1 58) h1).trans (sp1_cut h2)
  rw [h4] at h3
  cases e : Txt.split x (Str.ofString ":") with
  | nil => rw [e] at h3; cases h3
  | cons a b =>
    rw [e, List.map_cons, List.cons.injEq] at h3
    refine ⟨b, ?_, ?_, ?_⟩
    · rw [S_ext h3.1]; rfl
    · refine S_ext ?_
      rw [tl_Tjoin, h3.2, col_is]
      exact join_sp1 58 _
    · have h5 := sp1_sum 58 (td (tl x))
      rw [← h3.2] at h5
      have h6 := td_len (tl x)
      rw [List.map_map, List.length_map] at h5
      have h7 : b.map (List.length ∘ tl) = b.map (·.length) := List.map_congr_left fun y _ => (len_tl y).symm
      rw [h7] at h5
      rw [len_tl x]
      omega
def osL (h : List Nat) : List (Option Int) := if h = [] then [] else (sp1 32 h).map whL
theorem shL_os (h : List Nat) : shL h = match allS (osL h) with
  | some s => if ShOk s then some s else none
  | none => none := by
  unfold shL osL
  by_cases e : h = []
  · first | (rw [if_pos e, if_pos e]; done) | (rw [if_pos e, if_pos e]; rfl)
  · first | (rw [if_neg e, if_neg e]; done) | (rw [if_neg e, if_neg e]; cases allS (List.map whL (sp1 32 h)) <;> rfl)
theorem join_ok {g : Str} {ys : List Str} {P : D → Prop} (h : (ys.map (·.length)).sum + ys.length * g.length ≤ 16777216) (q : P (.str (Txt.join g ys))) : mJoin g (.lst (ys.map D.str)) P := by
  simp only [mJoin, Al.strs_map]
  exact ⟨h, q⟩
def numD : D → Int
  | .int i => i
  | _ => 0
theorem bad_empty (q : Int → Bool) : ∀ ms : List Int, ((ms.map D.int).filter fun d => !(q (numD d))).isEmpty = ms.all q
  | [] => rfl
  | a :: l => by
    have ih := bad_empty q l
    cases hc : q a with
    | true => rw [List.map_cons, List.filter_cons_of_neg (by simp [numD, hc])]; simp [hc, ih]
    | false => rw [List.map_cons, List.filter_cons_of_pos (by simp [numD, hc])]; simp [hc]
theorem sizes_all (s : List Int) : s.all (fun n => decide (0 ≤ n) && decide (n ≤ 4000)) = decide (∀ x ∈ s, 0 ≤ x ∧ x ≤ 4000) := by
  rw [← isz_some, List.all_map]
  rfl
theorem osL_len (h : List Nat) : (osL h).length ≤ h.count 32 + 1 := by
  unfold osL
  split
  · simp
  · rw [List.length_map, sp1_len]; omega
theorem lread_ok {x : Str} (hb : x.length ≤ 100000) (hs : (tl x).count 32 ≤ 10000) {P : D → Prop} {X : XP} (p1 : ∀ s c, rdL (tl x) = some (s, c) → P (bd s c)) (p2 : rdL (tl x) = none → P .non) : F__law_read [.str x] P X := by
  have sz : (100002 : Nat) < sizeLine := by decide
  have kw := @figures_ok
  have k2 := @lcount_okL
  unfold F__law_read B__law_read
  generalize F__law_figures = F1 at kw ⊢
  generalize F__law_count = F3 at k2 ⊢
  refine seq_k fun K hK => ?_
  repeat (first | fail "step")
  refine inCol ?_
  by_cases h58 : 58 ∈ tl x
  case neg =>
    rw [decide_eq_false h58]
    repeat (first | fail "step")
    exact p2 (if_neg h58)
  rw [decide_eq_true h58]
  repeat (first | fail "step")
  rw [hK]; clear hK
  refine seq_k fun K hK => ?_
  repeat (first | fail "step")
  refine ⟨⟨by decide +kernel, by omega⟩, ?_⟩
  obtain ⟨hs, e1, e2, e3⟩ := spl58 h58
  rw [e1]
  repeat (first | fail "step")
  refine ⟨⟨by decide +kernel, by omega⟩, ?_⟩
  rw [e1]
  repeat (first | fail "step")
  refine join_ok (by rw [show (Str.ofString ":").length = 1 by decide +kernel]; omega) ?_
  rw [e2]
  clear e1 e2 e3 hs
  repeat (first | fail "step")
  rw [hK]; clear hK
  refine seq_k fun K hK => ?_
  have lw := wS_len x
  have lt := tS_len x
  have cw : (osL (wd (tl x))).length ≤ (wd (tl x)).count 32 + 1 := osL_len _
  have cw2 : (wd (tl x)).count 32 ≤ (tl x).count 32 := List.Sublist.count_le _ (List.takeWhile_sublist _)
  have key : K [some (.str x), some (.str (wS x)), some (.str (tS x)), some (.lst ((osL (wd (tl x))).map optI)), none, none, none] := by
    rw [hK]; clear hK
    refine seq_k fun K hK => ?_
    have fl := flat_opt (osL (wd (tl x)))
    unfold rdL at p1 p2
    rw [if_pos h58, shL_os] at p1 p2
    repeat (first | fail "step")
    rcases in_non (osL (wd (tl x))) with ⟨s, h1, h2, h3⟩ | ⟨h1, h2⟩
    case inr =>
      rw [h1] at p2
      refine inNon fl h2 ?_
      repeat (first | fail "step")
      exact p2 rfl
    rw [h1] at p1 p2
    have ls : s.length = (osL (wd (tl x))).length := allS_len h1
    refine inNon fl h3 ?_
    rw [h2]
    clear h1 h2 h3 fl
    dsimp only at p1 p2
    repeat (first | fail "step")
    by_cases l6 : s.length ≤ 6
    case neg =>
      rw [if_neg (show ¬ ShOk s from fun z => l6 z.1)] at p2
      rw [decide_eq_true (by rw [List.length_map]; omega)]
      repeat (first | fail "step")
      exact p2 rfl
    rw [decide_eq_false (by rw [List.length_map]; omega)]
    repeat (first | fail "step")
    refine aLc_fil (s.map D.int) (fun d => !(decide (0 ≤ numD d) && decide (numD d ≤ 4000))) (fun Q q => by repeat (first | fail "step"); exact q) (by rw [List.length_map]; omega) ?_ (fun d _ Q q => by repeat (first | fail "step"); exact q) ?_
    · intro d hd Q q
      obtain ⟨n, hn, rfl⟩ := List.mem_map.mp hd
      simp only [numD] at q
      simp only [sSeq, sIf, sSet, sRet, sNext, sExpr, sAsg, sPar, sPar3, aB, aO, aU, aV, aC, aF, aIf, aAnd, aOr, aNot, aTAnd, aTOr, aTNot, aTr, aCh, aIs, aCall, aTup, aLst, aCons, aNil, aM1, aSl, pN, pS, withV, vals, sl, List.set_cons_zero, List.set_cons_succ, List.set_nil, Option.map_some, endP, endO, at0s, if_true, if_false, Bool.false_eq_true, isT, tyS, fI, fIC, fLenA, Bool.not_true, Bool.not_false, iS, iL, iT, reduceCtorEq]
      by_cases k1 : (0 : Int) ≤ n <;> simp only [k1, decide_true, decide_false, Bool.true_and, Bool.false_and] at q ⊢ <;> exact q
    repeat (first | fail "step")
    rw [bad_empty (fun n => decide (0 ≤ n) && decide (n ≤ 4000)), sizes_all]
    by_cases kS : ∀ x ∈ s, 0 ≤ x ∧ x ≤ 4000
    case neg =>
      rw [if_neg (show ¬ ShOk s from fun z => kS z.2)] at p2
      rw [decide_eq_false kS]
      repeat (first | fail "step")
      exact p2 rfl
    rw [decide_eq_true kS]
    rw [if_pos (show ShOk s from ⟨l6, kS⟩)] at p1 p2
    repeat (first | fail "step")
    rw [hK]; clear hK
    refine seq_k fun K hK => ?_
    obtain ⟨y0, ys, ey⟩ : ∃ y0 ys, Txt.split (tS x) (Str.ofString " ") = y0 :: ys := by
      cases h : Txt.split (tS x) (Str.ofString " ") with
      | nil => have := spl_len (tS x); rw [h] at this; simp at this
      | cons a b => exact ⟨a, b, rfl⟩
    have e32 : sp1 32 (td (tl x)) = tl y0 :: ys.map tl := by rw [← tl_tS, ← split32, ey, List.map_cons]
    have hn : ys.length ≤ 10000 := by
      have h1 := spl_len (tS x)
      have h2 := count_td 32 (tl x)
      rw [ey, List.length_cons, tl_tS] at h1
      omega
    unfold clL at p1 p2
    rw [e32] at p1 p2
    repeat (first | fail "step")
    refine aLc_map (ys.map D.str) whD (fun Q q => ?_) (by rw [List.length_map]; omega) ?_ ?_
    · repeat (first | fail "step")
      refine ⟨⟨by decide +kernel, by omega⟩, ?_⟩
      rw [ey]
      repeat (first | fail "step")
      exact q
    · intro d hd Q q
      obtain ⟨w, hw, rfl⟩ := List.mem_map.mp hd
      have h1 : w ∈ Txt.split (tS x) (Str.ofString " ") := by rw [ey]; exact List.mem_cons_of_mem _ hw
      have h2 := spl_mem h1
      repeat (first | fail "step")
      exact kw (by omega) q
    rw [words_whD]
    have fl := flat_opt ((ys.map tl).map whL)
    repeat (first | fail "step")
    rw [hK]; clear hK
    repeat (first | fail "step")
    rcases in_non ((ys.map tl).map whL) with ⟨ns, h1, h2, h3⟩ | ⟨h1, h2⟩
    case inr =>
      refine inNon fl h2 ?_
      repeat (first | fail "step")
      refine p2 ?_
      cases tl y0 with
      | nil => dsimp only; rw [h1]
      | cons a b => rfl
    refine inNon fl h3 ?_
    rw [h2]
    repeat (first | fail "step")
    refine ⟨⟨by decide +kernel, by omega⟩, ?_⟩
    rw [ey]
    repeat (first | fail "step")
    by_cases hy : tl y0 = []
    case neg =>
      rw [decide_eq_false (fun z => hy (empty_tl.mp z))]
      repeat (first | fail "step")
      refine p2 ?_
      cases h : tl y0 with
      | nil => exact absurd h hy
      | cons a b => rfl
    rw [decide_eq_true (empty_tl.mpr hy)]
    rw [hy] at p1 p2
    dsimp only at p1 p2
    rw [h1] at p1 p2
    dsimp only at p1 p2
    repeat (first | fail "step")
    refine k2 kS l6 ?_
    rw [List.length_map]
    repeat (first | fail "step")
    by_cases hc : (ns.length : Int) = prd s
    · rw [decide_eq_true hc]
      rw [if_pos hc] at p1
      repeat (first | fail "step")
      exact p1 _ _ rfl
    · rw [decide_eq_false hc]
      rw [if_neg hc] at p2
      repeat (first | fail "step")
      exact p2 rfl
  repeat (first | fail "step")
  by_cases he : wd (tl x) = []
  · rw [decide_eq_true (empty_tl.mpr (by rw [tl_wS]; exact he))]
    rw [osL, if_pos he] at key
    repeat (first | fail "step")
    exact key
  · rw [decide_eq_false (fun z => he (by rw [← tl_wS]; exact empty_tl.mp z))]
    rw [osL, if_neg he] at key
    repeat (first | fail "step")
    have hl := spl_len (wS x)
    rw [tl_wS] at hl
    refine aLc_map ((Txt.split (wS x) (Str.ofString " ")).map D.str) whD (fun Q q => ?_) (by rw [List.length_map]; omega) ?_ ?_
    · repeat (first | fail "step")
      exact ⟨⟨by decide +kernel, by omega⟩, by repeat (first | fail "step"); exact q⟩
    · intro d hd Q q
      obtain ⟨w, hw, rfl⟩ := List.mem_map.mp hd
      have h2 := spl_mem hw
      repeat (first | fail "step")
      exact kw (by omega) q
    rw [spl32, tl_wS]
    exact key
end Cr

set_option exponentiation.threshold 5000
namespace Cr
open PySem PySem.Builtin PySem.Builtin.Str PyProof.Rows L2 Al TL NumText
open Lean in
local macro_rules
  | `(tactic| fail $s:str) => match s.getString with
    | "side" => `(tactic| first | assumption | exact trivial | exact rfl | omega | (simp only [List.length_map, List.length_cons, List.length_nil, List.length_append, List.length_replicate, List.length_range, List.length_take, List.length_drop, List.length_reverse, List.length_set]; omega) | decide | (simp only [List.length_map, List.length_cons, List.length_nil, List.length_append, List.length_replicate, List.length_range]; decide) | exact mul_small (by omega) | exact mul_small' (by omega))
    | "one" => `(tactic| first | fail "one0" | fail "one1" | fail "one2" | fail "one3" | fail "one4" | fail "one5" | fail "one6" | fail "one7" | fail "one8" | fail "one9" | fail "one10" | fail "one11" | fail "one12" | fail "one13" | fail "one14" | fail "one15" | fail "one16")
    | "one0" => `(tactic| first | (with_reducible apply Al.goP) | (with_reducible apply Al.goO) | (with_reducible apply Al.goJ) | (with_reducible apply Al.goSeq) | (with_reducible apply Al.stSet) | (with_reducible apply Al.stExpr) | (with_reducible apply Al.stNext) | (with_reducible apply Al.stAsg))
    | "one1" => `(tactic| first | (with_reducible apply Al.goIf) | (with_reducible apply Al.goRet) | (with_reducible apply Al.goRetN) | (with_reducible apply Al.goFor) | (with_reducible apply Al.goFor0) | (with_reducible apply Al.goAug) | (with_reducible apply Al.goParO) | (with_reducible apply Al.stPar))
    | "one2" => `(tactic| first | (with_reducible apply Al.goPar3) | (with_reducible apply Al.goIxS) | (with_reducible apply Al.goBrk) | (with_reducible apply Al.goCnt) | (with_reducible apply Al.stO) | (with_reducible apply Al.stC) | (with_reducible apply Al.stNil) | (with_reducible apply Al.stCons))
    | "one3" => `(tactic| first | (with_reducible apply Al.stW0) | (with_reducible apply Al.stW1) | (with_reducible apply Al.stW2) | (with_reducible apply Al.stW3) | (with_reducible apply Al.stW4) | (with_reducible apply Al.stW5) | (with_reducible apply Al.stW6) | (with_reducible apply Al.stTup))
    | "one4" => `(tactic| first | (with_reducible apply Al.stLst) | (with_reducible apply Al.stF) | (with_reducible apply Al.stCall) | (with_reducible apply Al.stCallD) | (with_reducible apply Al.stU) | (with_reducible apply Al.stSl) | (with_reducible apply Al.stpN) | (with_reducible apply Al.stpS))
    | "one5" => `(tactic| first | (with_reducible apply Al.onInt_i) | (with_reducible apply Al.onBl_i) | (with_reducible apply Al.onLst_i) | (with_reducible apply Al.onTup_i) | (with_reducible apply Al.onStr_i) | (with_reducible apply Al.onInt1_i) | (with_reducible apply Al.on2_i) | (with_reducible apply Al.on3_i))
    | "one6" => `(tactic| first | (with_reducible apply Al.onIns_i) | (with_reducible apply Al.onNon_i) | (with_reducible apply Al.stB) | (with_reducible apply Al.stTr) | (with_reducible apply Al.stTOr) | (with_reducible apply Al.stTAnd) | (with_reducible apply Al.stTNot) | (with_reducible apply Al.stAnd))
    | "one7" => `(tactic| first | (with_reducible apply Al.stOr) | (with_reducible apply Al.stNot) | (with_reducible apply Al.stIfE) | (with_reducible apply Al.stIs) | (with_reducible apply Al.stM1) | (with_reducible apply Al.stiL) | (with_reducible apply Al.stiT) | (with_reducible apply Al.goiR1))
    | "one8" => `(tactic| first | (with_reducible apply Al.goiS) | (with_reducible apply Al.goFld) | (with_reducible apply Al.goFldO) | (with_reducible apply Al.goCh) | (with_reducible apply Al.goIxO) | (with_reducible apply Al.goApp) | (with_reducible apply Al.goExt) | (with_reducible apply Al.goLenO))
    | "one9" => `(tactic| first | (with_reducible apply Al.goTupO) | (with_reducible apply Al.goRev) | (with_reducible apply Al.goEmpO) | (with_reducible apply Al.goMeth) | (with_reducible apply Al.goMake) | (with_reducible apply Al.goTy) | (with_reducible apply Al.goNm) | (with_reducible apply Al.goV))
    | "one10" => `(tactic| first | (with_reducible apply Al.goCallJ) | (with_reducible apply Al.if_t) | (with_reducible apply Al.if_f) | (with_reducible apply Al.if_tn) | (with_reducible apply Al.if_fn) | (with_reducible apply Al.if_T) | (with_reducible apply Al.opI) | (with_reducible apply Al.opAddI))
    | "one11" => `(tactic| first | (with_reducible apply Al.opEqI) | (with_reducible apply Al.opEqS) | (with_reducible apply Al.opEqE) | (with_reducible apply Al.opNeI) | (with_reducible apply Al.opNeS) | (with_reducible apply Al.opNeE) | (with_reducible apply Al.opEqT) | (with_reducible apply Al.opNeT))
    | "one12" => `(tactic| first | (with_reducible apply Al.opNeg) | (with_reducible apply Al.opIxL) | (with_reducible apply Al.opIxT) | (with_reducible apply Al.opSlT) | (with_reducible apply Al.opSlL) | (with_reducible apply Al.opLenL) | (with_reducible apply Al.opLenT) | (with_reducible apply Al.opLenC))
    | "one13" => `(tactic| first | (with_reducible apply Al.opStrS) | (with_reducible apply Al.opTupL) | (with_reducible apply Al.opTupT) | (with_reducible apply Al.opLstT) | (with_reducible apply Al.opLstL) | (with_reducible apply Al.opEqN) | (with_reducible apply Al.opIsN_i) | (with_reducible apply Al.opIsN_s))
    | "one14" => `(tactic| first | (with_reducible apply Al.opIsN_t) | (with_reducible apply Al.opIsN_l) | (with_reducible apply Al.opNotN_i) | (with_reducible apply Al.opNotN_n) | (with_reducible apply Al.opMax) | (with_reducible apply Al.opMin) | (with_reducible apply Al.opAbs) | (with_reducible apply Al.opIntI))
    | "one15" => `(tactic| first | (with_reducible apply Al.opIntB) | (with_reducible apply Al.opRevL) | (with_reducible apply Al.opRevT) | (with_reducible apply Al.ifNN) | (with_reducible apply Al.goDisp) | (with_reducible apply Al.goDgo0) | (with_reducible apply Al.goDgo) | (with_reducible apply Al.at0c))
    | "one16" => `(tactic| first | (with_reducible apply Al.at0m) | (with_reducible apply Al.at1c) | (with_reducible apply Al.at2c) | (with_reducible apply Al.at3c))
    | "rfl" => `(tactic| first | fail "rfl0" | fail "rfl1")
    | "rfl0" => `(tactic| first | ((with_reducible apply Al.stW); exact rfl) | ((with_reducible apply Al.stV); exact rfl) | ((with_reducible apply Al.stM); exact rfl) | ((with_reducible apply Al.goWL); exact rfl) | ((with_reducible apply Al.goWD); exact rfl) | ((with_reducible apply Al.goAt0); exact rfl) | ((with_reducible apply Al.goAtj); exact rfl) | ((with_reducible apply Al.onSome_i); exact rfl))
    | "rfl1" => `(tactic| first | ((with_reducible apply Al.goTp); exact rfl) | ((with_reducible apply Al.goOwn); exact rfl) | ((with_reducible apply Al.goWJ); exact rfl) | ((with_reducible apply Al.stCallO); exact rfl))
    | "conj" => `(tactic| first | fail "conj0" | fail "conj1")
    | "conj0" => `(tactic| first | (with_reducible apply Al.opIC) | (with_reducible apply Al.opAddS) | (with_reducible apply Al.opAddT) | (with_reducible apply Al.opAddL) | (with_reducible apply Al.opMulI) | (with_reducible apply Al.opSlS) | (with_reducible apply Al.opLenS) | (with_reducible apply Al.opStrI))
    | "conj1" => `(tactic| first | ((with_reducible refine And.intro ?_ ?_); fail "side") | ((with_reducible apply Al.goStL); fail "side") | ((with_reducible apply Al.goStT); fail "side"))
    | "ifs" => `(tactic| first | ((with_reducible apply Al.ifT); fail "side") | ((with_reducible apply Al.ifF); fail "side") | ((with_reducible apply Al.ifTn); fail "side") | ((with_reducible apply Al.ifFn); fail "side") | ((with_reducible apply Al.ifT'); fail "side") | ((with_reducible apply Al.ifF'); fail "side") | ((with_reducible apply Al.ifTb); exact rfl) | ((with_reducible apply Al.ifFb); exact rfl))
    | "norm" => `(tactic| simp only [List.set_cons_zero, List.set_cons_succ, Al.setAll_c, Al.setAll_0, Int.toNat_natCast, Al.cut1c, Al.cut1m, Al.cutAll, List.cons_append, List.nil_append])
    | "step" => `(tactic| first | fail "one" | fail "rfl" | fail "norm" | fail "conj" | fail "ifs")
    | _ => Macro.throwUnsupported

theorem so_app {x y : Str} (hx : PyData.strOk x = true) (hy : PyData.strOk y = true) : PyData.strOk (x ++ y) = true := by
  unfold PyData.strOk at *
  rw [Str.cps_append, Array.all_append, hx, hy]
  rfl
theorem so_of (s : String) : PyData.strOk (Str.ofString s) = true := by
  unfold PyData.strOk
  rw [Str.ofString_eq_toList]
  rw [List.all_toArray, List.all_map, List.all_eq_true]
  intro c _
  have := c.valid
  show decide (c.toNat < 0x110000) = true
  rw [decide_eq_true_iff]
  rcases this with h | h
  · have : c.toNat < 0xd800 := h
    omega
  · exact h.2
theorem so_join (sep : Str) (hs : PyData.strOk sep = true) : ∀ ts : List Str, (∀ t ∈ ts, PyData.strOk t = true) → PyData.strOk (Str.join sep ts) = true
  | [], _ => by show PyData.strOk Str.empty = true; decide +kernel
  | [x], h => h x (by simp)
  | x :: y :: r, h => so_app (so_app (h x (by simp)) hs) (so_join sep hs (y :: r) fun t ht => h t (by simp at ht ⊢; exact .inr ht))
theorem so_tuple {ts : List Str} (h : ∀ t ∈ ts, PyData.strOk t = true) : PyData.strOk (tupleText ts) = true := so_app (so_app (so_of _) (so_join _ (so_of _) ts h)) (so_of _)
/-- a number, a truth -/
inductive Nb : PyData → Prop
  | int (i : Int) : Nb (.int i)
  | bl (b : Bool) : Nb (.bool b)
theorem so_nb {p : PyData} (h : Nb p) : PyData.strOk p.shown = true := by
  cases h with
  | int i => simp only [PyData.shown]; exact so_of _
  | bl b => cases b <;> (simp only [PyData.shown]; exact so_of _)
theorem so_nbs : ∀ {ps : List PyData}, (∀ p ∈ ps, Nb p) → ∀ t ∈ PyData.shownAll ps, PyData.strOk t = true
  | [], _, t, h => by simp [PyData.shownAll] at h
  | p :: ps, hp, t, h => by
    simp only [PyData.shownAll, List.mem_cons] at h
    rcases h with rfl | h
    · exact so_nb (hp p (by simp))
    · exact so_nbs (fun q hq => hp q (by simp [hq])) t h
theorem so_ti {ps : List PyData} (h : ∀ p ∈ ps, Nb p) : PyData.strOk (PyData.shown (.tuple ps)) = true := by
  simp only [PyData.shown]
  exact so_tuple (so_nbs h)
/-! ### repr of a text -/
theorem so_tl {x : Str} : PyData.strOk x = (tl x).all fun c => decide (c < 0x110000) := by
  unfold PyData.strOk tl
  rw [Array.all_toList]
theorem chars_ok {l : List Char} : ∀ c ∈ l.map Char.toNat, c < 0x110000 := fun c hc => by
  obtain ⟨d, _, rfl⟩ := List.mem_map.mp hc
  rcases d.valid with h | h
  · have : d.toNat < 0xd800 := h
    omega
  · exact h.2
theorem repr_char {q c : Nat} (hq : q < 0x110000) (hc : c < 0x110000) : ∀ d ∈ Builtin.Str.reprChar q c, d < 0x110000 := by
  have hex : ∀ w, ∀ d ∈ List.replicate (w - ((Nat.toDigits 16 c).map Char.toNat).length) 48 ++ (Nat.toDigits 16 c).map Char.toNat, d < 0x110000 := fun w d hd => by
    rcases List.mem_append.mp hd with h | h
    · rw [(List.mem_replicate.mp h).2]; decide
    · exact chars_ok d h
  have h2 := hex 2
  have h4 := hex 4
  have h8 := hex 8
  unfold Builtin.Str.reprChar
  dsimp only
  repeat' split
  all_goals (intro d hd; simp only [List.mem_append, List.mem_cons, List.not_mem_nil, or_false] at hd h2 h4 h8)
  all_goals first | omega | (rcases hd with h | h; omega; first | exact h2 d h | exact h4 d h | exact h8 d h)
theorem fold_ok {q : Nat} (hq : q < 0x110000) : ∀ (l : List Nat) (acc : Array Nat), (∀ c ∈ l, c < 0x110000) → (∀ c ∈ acc.toList, c < 0x110000) → ∀ c ∈ (l.foldl (fun out c => out ++ (Builtin.Str.reprChar q c).toArray) acc).toList, c < 0x110000
  | [], acc, _, h => h
  | a :: l, acc, hl, h => by
    rw [List.foldl_cons]
    refine fold_ok hq l _ (fun c hc => hl c (by simp [hc])) fun c hc => ?_
    rw [Array.toList_append, List.mem_append] at hc
    rcases hc with hc | hc
    · exact h c hc
    · exact repr_char hq (hl a (by simp)) c hc
theorem so_all {x : Str} (h : PyData.strOk x = true) : ∀ c ∈ x.cps.toList, c < 0x110000 := fun c hc => by
  rw [so_tl] at h
  simpa using List.all_eq_true.mp h c hc
theorem quote_ok (x : Str) : reprQuote x < 0x110000 := by
  unfold reprQuote
  split <;> decide
theorem so_repr {x : Str} (h : PyData.strOk x = true) : PyData.strOk (reprText x) = true := by
  have h1 := fold_ok (quote_ok x) x.cps.toList #[reprQuote x] (so_all h) (fun c hc => by
    have : c = reprQuote x := by simpa using hc
    rw [this]; exact quote_ok x)
  rw [so_tl]
  unfold reprText tl
  rw [Array.toList_push, List.all_append, ← Array.foldl_toList, Bool.and_eq_true]
  refine ⟨List.all_eq_true.mpr fun c hc => by simpa using h1 c hc, ?_⟩
  have := quote_ok x
  simpa using this
theorem repr_len {x : Str} (h : PyData.strOk x = true) : (reprText x).length ≤ 10 * x.length + 2 := StrLaws.reprText_len x fun c hc => by
  have := so_all h c hc
  omega
theorem reprS {x : Str} (h : PyData.strOk x = true) (hb : x.length ≤ 100000) {P : D → Prop} (q : P (.str (reprText x))) : fReprT [.str x] P := by
  have sz : (1100000 : Nat) < sizeLine := by decide
  have := repr_len h
  show fRepr [.str x] P
  unfold fRepr
  exact ⟨⟨rfl, by show PyData.depth (.str x) ≤ 64; simp only [PyData.depth]; omega, by show (reprText x).length ≤ sizeLine; omega⟩, q⟩
/-! ### texts of boards -/
def numS (i : Int) : Str := Str.ofString (toString i)
theorem tl_numS (i : Int) : tl (numS i) = numZ i := tl_int i
def spS (i : Int) : Str := Str.ofString " " ++ numS i
theorem sp_tl : tl (Str.ofString " ") = [32] := by decide +kernel
theorem tl_spS (i : Int) : tl (spS i) = 32 :: numZ i := by rw [spS, tl_append, tl_numS, sp_tl]; rfl
def hdS (s : List Int) : Str := Txt.join (Str.ofString " ") (s.map numS)
def clS (c : List Int) : Str := Txt.join (Str.ofString "") (c.map spS)
def txS (s c : List Int) : Str := hdS s ++ Str.ofString ":" ++ clS c
theorem tl_hdS (s : List Int) : tl (hdS s) = joinL [32] (s.map numZ) := by
  rw [hdS, tl_Tjoin, sp_tl, List.map_map]
  congr 1
  exact List.map_congr_left fun i _ => tl_numS i
theorem joinL_nil : ∀ ps : List (List Nat), joinL [] ps = ps.flatten
  | [] => rfl
  | [p] => by simp [joinL]
  | p :: q :: r => by
    have := joinL_nil (q :: r)
    simp only [joinL, List.nil_append, this, List.flatten_cons]
theorem tl_clS (c : List Int) : tl (clS c) = (c.map fun i => 32 :: numZ i).flatten := by
  rw [clS, tl_Tjoin, show tl (Str.ofString "") = [] by decide +kernel, joinL_nil, List.map_map]
  congr 1
  exact List.map_congr_left fun i _ => tl_spS i
theorem tl_txS (s c : List Int) : tl (txS s c) = bdL s c := by
  rw [txS, tl_append, tl_append, tl_hdS, tl_clS, col_is]
  show _ ++ [58] ++ _ = _
  unfold bdL
  rw [List.append_assoc]
  rfl
theorem sum_joinL (g : List Nat) : ∀ ps : List (List Nat), (ps.map List.length).sum ≤ (joinL g ps).length
  | [] => Nat.le_refl _
  | [p] => by simp [joinL]
  | p :: q :: r => by
    have := sum_joinL g (q :: r)
    simp only [joinL, List.map_cons, List.sum_cons, List.length_append] at this ⊢
    omega
theorem lens_tl (ys : List Str) : ys.map (·.length) = (ys.map tl).map List.length := by
  rw [List.map_map]
  exact List.map_congr_left fun y _ => len_tl y
theorem hd_sum (s : List Int) : ((s.map numS).map (·.length)).sum ≤ (hdS s).length := by
  have e : (s.map numS).map tl = s.map numZ := by rw [List.map_map]; exact List.map_congr_left fun i _ => tl_numS i
  rw [lens_tl, e, len_tl, tl_hdS]
  exact sum_joinL _ _
theorem cl_sum (c : List Int) : ((c.map spS).map (·.length)).sum = (clS c).length := by
  have e : (c.map spS).map tl = c.map fun i => 32 :: numZ i := by rw [List.map_map]; exact List.map_congr_left fun i _ => tl_spS i
  rw [lens_tl, e, len_tl, tl_clS, List.length_flatten]
theorem cl_cnt (c : List Int) : c.length ≤ (clS c).length := by
  rw [← cl_sum]
  induction c with
  | nil => simp
  | cons i c ih =>
    have h : (spS i).length = (numZ i).length + 1 := by rw [len_tl, tl_spS]; rfl
    simp only [List.map_cons, List.sum_cons, List.length_cons, h]
    omega
theorem nums_sum (c : List Int) : ((c.map numS).map (·.length)).sum + c.length = (clS c).length := by
  rw [← cl_sum]
  induction c with
  | nil => rfl
  | cons i c ih =>
    have h : (spS i).length = (numS i).length + 1 := by rw [len_tl, tl_spS, len_tl, tl_numS]; rfl
    simp only [List.map_cons, List.sum_cons, List.length_cons, h]
    omega
theorem tx_len (s c : List Int) : (txS s c).length = (hdS s).length + 1 + (clS c).length := by
  rw [txS, len_app, len_app, show (Str.ofString ":").length = 1 by decide +kernel]
theorem log_of {i : Int} {k : Nat} (hk : k ≤ 500) (h : i.natAbs < 10 ^ k) : i.natAbs.log2 < 1920 := by
  refine bd_log (by decide) (Nat.lt_of_lt_of_le h (Nat.le_trans (Nat.pow_le_pow_right (by decide) hk) ?_))
  decide +kernel
theorem sz_log {s : List Int} (h : ShOk s) {i : Int} (hi : i ∈ s) : i.natAbs.log2 < 1920 := log_of (k := 4) (by decide) (by have := h.2 i hi; omega)
theorem em_app (x : Str) : Str.empty ++ x = x := Str.ext' (by simp [Str.cps_append, Str.empty])
/-- a board whose text is short enough -/
structure Bt (s c : List Int) : Prop extends Gb s c where
  ln : (txS s c).length ≤ 100000
theorem str_ok {s c : List Int} (g : Bt s c) {P : D → Prop} {X : XP} (q : P (.str (txS s c))) : F_Array___str__ [ar s c] P X := by
  have sz : (200000 : Nat) < sizeLine := by decide
  have h1 := hd_sum s
  have h2 := cl_sum c
  have h3 := cl_cnt c
  have h4 := tx_len s c
  have h5 := g.ln
  have h6 := g.sh.1
  unfold F_Array___str__ B_Array___str__
  repeat (first | fail "step")
  refine goLcE s D.int (fun i => .str (numS i)) (fun Q hQ => by repeat (first | fail "step"); exact hQ) (by omega) (fun i hi Q hQ => ?_) ?_
  · repeat (first | fail "step")
    exact ⟨sz_log g.sh hi, hQ⟩
  rw [show (s.map fun i => D.str (numS i)) = (s.map numS).map D.str by rw [List.map_map]; rfl]
  repeat (first | fail "step")
  refine join_ok (by rw [show (Str.ofString " ").length = 1 by decide +kernel, List.length_map]; omega) ?_
  show _
  repeat (first | fail "step")
  refine goLcE c D.int (fun i => .str (spS i)) (fun Q hQ => by repeat (first | fail "step"); exact hQ) (by omega) (fun i hi Q hQ => ?_) ?_
  · have h7 := numZ_fg (g.fg i hi)
    have h8 : (numS i).length = (numZ i).length := by rw [len_tl, tl_numS]
    have h9 : (Str.ofString " ").length = 1 := by decide +kernel
    simp only [aJ, jGo, aC, aU, aV, sl, oFmtB, em_app, List.set_cons_succ, List.set_cons_zero]
    refine ⟨by omega, fg_pow (g.fg i hi), ?_⟩
    exact ⟨by rw [Str.length_append]; show _ + (numS i).length ≤ _; omega, hQ⟩
  rw [show (c.map fun i => D.str (spS i)) = (c.map spS).map D.str by rw [List.map_map]; rfl]
  refine join_ok (by rw [show (Str.ofString "").length = 0 by decide +kernel, List.length_map]; omega) ?_
  show sRet _ _ [some (ar s c), some (.str (hdS s)), some (.str (clS c)), none, none]
  have h9 : (Str.ofString ":").length = 1 := by decide +kernel
  simp only [sRet, aJ, jGo, aC, aU, aV, sl, oFmt, em_app]
  refine ⟨by omega, by omega, by rw [Str.length_append]; omega, by omega, ?_⟩
  exact ⟨by rw [Str.length_append, Str.length_append]; omega, q⟩
theorem atext_ok {s c : List Int} (g : Bt s c) (hs : ∀ i ∈ c, i.natAbs < 10 ^ 500) {P : D → Prop} {X : XP} (q : P (.str (txS s c))) : F__law_array_text [bd s c] P X := by
  have sz : (200000 : Nat) < sizeLine := by decide
  have h1 := hd_sum s
  have h2 := cl_sum c
  have h3 := cl_cnt c
  have h4 := tx_len s c
  have h5 := g.ln
  have h6 := g.sh.1
  have h9 : (Str.ofString ":").length = 1 := by decide +kernel
  unfold F__law_array_text B__law_array_text
  repeat (first | fail "step")
  refine goLcE s D.int (fun i => .str (numS i)) (fun Q hQ => by repeat (first | fail "step"); exact hQ) (by omega) (fun i hi Q hQ => ?_) ?_
  · repeat (first | fail "step")
    exact ⟨sz_log g.sh hi, hQ⟩
  rw [show (s.map fun i => D.str (numS i)) = (s.map numS).map D.str by rw [List.map_map]; rfl]
  repeat (first | fail "step")
  refine join_ok (by rw [show (Str.ofString " ").length = 1 by decide +kernel, List.length_map]; omega) ?_
  rw [show Txt.join (Str.ofString " ") (s.map numS) = hdS s from rfl]
  repeat (first | fail "step")
  refine goLcE c D.int (fun i => .str (spS i)) (fun Q hQ => by repeat (first | fail "step"); exact hQ) (by omega) (fun i hi Q hQ => ?_) ?_
  · repeat (first | fail "step")
    have h7 := numZ_fg (g.fg i hi)
    have h8 : (numS i).length = (numZ i).length := by rw [len_tl, tl_numS]
    have h9 : (Str.ofString " ").length = 1 := by decide +kernel
    refine ⟨log_of (k := 500) (by decide) (hs i hi), ?_⟩
    refine ⟨by show _ + (numS i).length ≤ _; omega, hQ⟩
  rw [show (c.map fun i => D.str (spS i)) = (c.map spS).map D.str by rw [List.map_map]; rfl]
  refine join_ok (by rw [show (Str.ofString "").length = 0 by decide +kernel, List.length_map]; omega) ?_
  rw [show Txt.join (Str.ofString "") (c.map spS) = clS c from rfl]
  repeat (first | fail "step")
  refine ⟨by rw [Str.length_append]; omega, ?_⟩
  repeat (first | fail "step")
  exact q
end Cr

namespace Cr
open PySem PySem.Builtin PySem.Builtin.Str PyProof.Rows L2 Al TL NumText
open Lean in
local macro_rules
  | `(tactic| fail $s:str) => match s.getString with
    | "side" => `(tactic| first | assumption | exact trivial | exact rfl | omega | (simp only [List.length_map, List.length_cons, List.length_nil, List.length_append, List.length_replicate, List.length_range, List.length_take, List.length_drop, List.length_reverse, List.length_set]; omega) | decide | (simp only [List.length_map, List.length_cons, List.length_nil, List.length_append, List.length_replicate, List.length_range]; decide) | exact mul_small (by omega) | exact mul_small' (by omega))
    | "one" => `(tactic| first | fail "one0" | fail "one1" | fail "one2" | fail "one3" | fail "one4" | fail "one5" | fail "one6" | fail "one7" | fail "one8" | fail "one9" | fail "one10" | fail "one11" | fail "one12" | fail "one13" | fail "one14" | fail "one15" | fail "one16")
    | "one0" => `(tactic| first | (with_reducible apply Al.goP) | (with_reducible apply Al.goO) | (with_reducible apply Al.goJ) | (with_reducible apply Al.goSeq) | (with_reducible apply Al.stSet) | (with_reducible apply Al.stExpr) | (with_reducible apply Al.stNext) | (with_reducible apply Al.stAsg))
    | "one1" => `(tactic| first | (with_reducible apply Al.goIf) | (with_reducible apply Al.goRet) | (with_reducible apply Al.goRetN) | (with_reducible apply Al.goFor) | (with_reducible apply Al.goFor0) | (with_reducible apply Al.goAug) | (with_reducible apply Al.goParO) | (with_reducible apply Al.stPar))
    | "one2" => `(tactic| first | (with_reducible apply Al.goPar3) | (with_reducible apply Al.goIxS) | (with_reducible apply Al.goBrk) | (with_reducible apply Al.goCnt) | (with_reducible apply Al.stO) | (with_reducible apply Al.stC) | (with_reducible apply Al.stNil) | (with_reducible apply Al.stCons))
    | "one3" => `(tactic| first | (with_reducible apply Al.stW0) | (with_reducible apply Al.stW1) | (with_reducible apply Al.stW2) | (with_reducible apply Al.stW3) | (with_reducible apply Al.stW4) | (with_reducible apply Al.stW5) | (with_reducible apply Al.stW6) | (with_reducible apply Al.stTup))
    | "one4" => `(tactic| first | (with_reducible apply Al.stLst) | (with_reducible apply Al.stF) | (with_reducible apply Al.stCall) | (with_reducible apply Al.stCallD) | (with_reducible apply Al.stU) | (with_reducible apply Al.stSl) | (with_reducible apply Al.stpN) | (with_reducible apply Al.stpS))
    | "one5" => `(tactic| first | (with_reducible apply Al.onInt_i) | (with_reducible apply Al.onBl_i) | (with_reducible apply Al.onLst_i) | (with_reducible apply Al.onTup_i) | (with_reducible apply Al.onStr_i) | (with_reducible apply Al.onInt1_i) | (with_reducible apply Al.on2_i) | (with_reducible apply Al.on3_i))
    | "one6" => `(tactic| first | (with_reducible apply Al.onIns_i) | (with_reducible apply Al.onNon_i) | (with_reducible apply Al.stB) | (with_reducible apply Al.stTr) | (with_reducible apply Al.stTOr) | (with_reducible apply Al.stTAnd) | (with_reducible apply Al.stTNot) | (with_reducible apply Al.stAnd))
    | "one7" => `(tactic| first | (with_reducible apply Al.stOr) | (with_reducible apply Al.stNot) | (with_reducible apply Al.stIfE) | (with_reducible apply Al.stIs) | (with_reducible apply Al.stM1) | (with_reducible apply Al.stiL) | (with_reducible apply Al.stiT) | (with_reducible apply Al.goiR1))
    | "one8" => `(tactic| first | (with_reducible apply Al.goiS) | (with_reducible apply Al.goFld) | (with_reducible apply Al.goFldO) | (with_reducible apply Al.goCh) | (with_reducible apply Al.goIxO) | (with_reducible apply Al.goApp) | (with_reducible apply Al.goExt) | (with_reducible apply Al.goLenO))
    | "one9" => `(tactic| first | (with_reducible apply Al.goTupO) | (with_reducible apply Al.goRev) | (with_reducible apply Al.goEmpO) | (with_reducible apply Al.goMeth) | (with_reducible apply Al.goMake) | (with_reducible apply Al.goTy) | (with_reducible apply Al.goNm) | (with_reducible apply Al.goV))
    | "one10" => `(tactic| first | (with_reducible apply Al.goCallJ) | (with_reducible apply Al.if_t) | (with_reducible apply Al.if_f) | (with_reducible apply Al.if_tn) | (with_reducible apply Al.if_fn) | (with_reducible apply Al.if_T) | (with_reducible apply Al.opI) | (with_reducible apply Al.opAddI))
    | "one11" => `(tactic| first | (with_reducible apply Al.opEqI) | (with_reducible apply Al.opEqS) | (with_reducible apply Al.opEqE) | (with_reducible apply Al.opNeI) | (with_reducible apply Al.opNeS) | (with_reducible apply Al.opNeE) | (with_reducible apply Al.opEqT) | (with_reducible apply Al.opNeT))
    | "one12" => `(tactic| first | (with_reducible apply Al.opNeg) | (with_reducible apply Al.opIxL) | (with_reducible apply Al.opIxT) | (with_reducible apply Al.opSlT) | (with_reducible apply Al.opSlL) | (with_reducible apply Al.opLenL) | (with_reducible apply Al.opLenT) | (with_reducible apply Al.opLenC))
    | "one13" => `(tactic| first | (with_reducible apply Al.opStrS) | (with_reducible apply Al.opTupL) | (with_reducible apply Al.opTupT) | (with_reducible apply Al.opLstT) | (with_reducible apply Al.opLstL) | (with_reducible apply Al.opEqN) | (with_reducible apply Al.opIsN_i) | (with_reducible apply Al.opIsN_s))
    | "one14" => `(tactic| first | (with_reducible apply Al.opIsN_t) | (with_reducible apply Al.opIsN_l) | (with_reducible apply Al.opNotN_i) | (with_reducible apply Al.opNotN_n) | (with_reducible apply Al.opMax) | (with_reducible apply Al.opMin) | (with_reducible apply Al.opAbs) | (with_reducible apply Al.opIntI))
    | "one15" => `(tactic| first | (with_reducible apply Al.opIntB) | (with_reducible apply Al.opRevL) | (with_reducible apply Al.opRevT) | (with_reducible apply Al.ifNN) | (with_reducible apply Al.goDisp) | (with_reducible apply Al.goDgo0) | (with_reducible apply Al.goDgo) | (with_reducible apply Al.at0c))
    | "one16" => `(tactic| first | (with_reducible apply Al.at0m) | (with_reducible apply Al.at1c) | (with_reducible apply Al.at2c) | (with_reducible apply Al.at3c))
    | "rfl" => `(tactic| first | fail "rfl0" | fail "rfl1")
    | "rfl0" => `(tactic| first | ((with_reducible apply Al.stW); exact rfl) | ((with_reducible apply Al.stV); exact rfl) | ((with_reducible apply Al.stM); exact rfl) | ((with_reducible apply Al.goWL); exact rfl) | ((with_reducible apply Al.goWD); exact rfl) | ((with_reducible apply Al.goAt0); exact rfl) | ((with_reducible apply Al.goAtj); exact rfl) | ((with_reducible apply Al.onSome_i); exact rfl))
    | "rfl1" => `(tactic| first | ((with_reducible apply Al.goTp); exact rfl) | ((with_reducible apply Al.goOwn); exact rfl) | ((with_reducible apply Al.goWJ); exact rfl) | ((with_reducible apply Al.stCallO); exact rfl))
    | "conj" => `(tactic| first | fail "conj0" | fail "conj1")
    | "conj0" => `(tactic| first | (with_reducible apply Al.opIC) | (with_reducible apply Al.opAddS) | (with_reducible apply Al.opAddT) | (with_reducible apply Al.opAddL) | (with_reducible apply Al.opMulI) | (with_reducible apply Al.opSlS) | (with_reducible apply Al.opLenS) | (with_reducible apply Al.opStrI))
    | "conj1" => `(tactic| first | ((with_reducible refine And.intro ?_ ?_); fail "side") | ((with_reducible apply Al.goStL); fail "side") | ((with_reducible apply Al.goStT); fail "side"))
    | "ifs" => `(tactic| first | ((with_reducible apply Al.ifT); fail "side") | ((with_reducible apply Al.ifF); fail "side") | ((with_reducible apply Al.ifTn); fail "side") | ((with_reducible apply Al.ifFn); fail "side") | ((with_reducible apply Al.ifT'); fail "side") | ((with_reducible apply Al.ifF'); fail "side") | ((with_reducible apply Al.ifTb); exact rfl) | ((with_reducible apply Al.ifFb); exact rfl))
    | "norm" => `(tactic| simp only [List.set_cons_zero, List.set_cons_succ, Al.setAll_c, Al.setAll_0, Int.toNat_natCast, Al.cut1c, Al.cut1m, Al.cutAll, List.cons_append, List.nil_append])
    | "step" => `(tactic| first | fail "one" | fail "rfl" | fail "norm" | fail "conj" | fail "ifs")
    | _ => Macro.throwUnsupported

def shT (s : List Int) : Str := PyData.shown (.tuple (s.map PyData.int))
def shLi (s : List Int) : Str := PyData.shown (.list (s.map PyData.int))
theorem shown_nums : ∀ c : List Int, PyData.shownAll (c.map PyData.int) = c.map numS
  | [] => rfl
  | i :: c => by
    simp only [List.map_cons, PyData.shownAll, shown_nums c]
    rw [PyData.shown]
    rfl
theorem show_ints : ∀ c : List Int, (∀ i ∈ c, i.natAbs.log2 < 1920) → PyData.showableAll (c.map PyData.int) = true
  | [], _ => rfl
  | i :: c, h => by
    simp only [List.map_cons, PyData.showableAll, PyData.showable, show_ints c fun j hj => h j (by simp [hj]), Bool.and_true]
    exact decide_eq_true (h i (by simp))
theorem deep_ints : ∀ c : List Int, PyData.depthAll (c.map PyData.int) ≤ 1
  | [] => by simp [PyData.depthAll]
  | i :: c => by
    have := deep_ints c
    simp only [List.map_cons, PyData.depthAll, PyData.depth]
    omega
theorem rep_ti {s : List Int} (hl : ∀ i ∈ s, i.natAbs.log2 < 1920) (hs : ((s.map numS).map (·.length)).sum + s.length ≤ 100000) {P : D → Prop} (q : P (.str (shT s))) : fRepr [ti s] P := by
  have sz : (1000000 : Nat) < sizeLine := by decide
  have h3 := deep_ints s
  unfold fRepr
  simp only [py_ti]
  refine ⟨⟨by simp only [PyData.showable]; exact show_ints s hl, by simp only [PyData.depth]; omega, ?_⟩, q⟩
  have := tupleText_len_le (PyData.shownAll (s.map PyData.int))
  simp only [PyData.shown]
  rw [shown_nums] at this ⊢
  rw [List.length_map] at this
  omega
theorem rep_li {s : List Int} (hl : ∀ i ∈ s, i.natAbs.log2 < 1920) (hs : ((s.map numS).map (·.length)).sum + s.length ≤ 100000) {P : D → Prop} (q : P (.str (shLi s))) : fRepr [li s] P := by
  have sz : (1000000 : Nat) < sizeLine := by decide
  have h3 := deep_ints s
  unfold fRepr
  simp only [py_li]
  refine ⟨⟨by simp only [PyData.showable]; exact show_ints s hl, by simp only [PyData.depth]; omega, ?_⟩, q⟩
  have := listText_len_le (PyData.shownAll (s.map PyData.int))
  simp only [PyData.shown]
  rw [shown_nums] at this ⊢
  rw [List.length_map] at this
  omega
theorem fmt_ti {s : List Int} (hl : ∀ i ∈ s, i.natAbs.log2 < 1920) (hs : ((s.map numS).map (·.length)).sum + s.length ≤ 100000) {P : D → Prop} (q : P (.str (shT s))) : oFmtR (ti s) P := by
  have h : fRepr [ti s] P := rep_ti hl hs q
  unfold oFmtR
  unfold fRepr at h
  simp only [py_ti] at h ⊢
  exact h
def ttS (c : List Int) : Str := tupleText (c.map intT)
def rpS (s c : List Int) : Str := Str.ofString "Array(" ++ shT s ++ Str.ofString ", " ++ ttS c ++ Str.ofString ")"
theorem tt_len (c : List Int) : (ttS c).length ≤ ((c.map numS).map (·.length)).sum + 2 * c.length + 3 := by
  have := tupleText_len_le (c.map intT)
  rw [List.length_map] at this
  exact this
theorem tupB_ok {c : List Int} (hf : ∀ i ∈ c, Fg i) (hs : ((c.map numS).map (·.length)).sum + c.length ≤ 100000) {P : D → Prop} (q : P (.str (ttS c))) : tupB (c.map D.int) P := by
  have sz : (1000000 : Nat) < sizeLine := by decide
  have := tt_len c
  unfold tupB
  rw [Al.ints_map]
  exact ⟨⟨fun i hi => fg_pow (hf i hi), by show (ttS c).length ≤ _; omega⟩, q⟩
theorem Bt.cs {s c : List Int} (g : Bt s c) : ((c.map numS).map (·.length)).sum + c.length ≤ 100000 := by
  have := nums_sum c
  have := tx_len s c
  have := g.ln
  omega
theorem Bt.ss {s c : List Int} (g : Bt s c) : ((s.map numS).map (·.length)).sum + s.length ≤ 100000 := by
  have := hd_sum s
  have h2 := tx_len s c
  have := g.ln
  have := g.sh.1
  by_cases h : s = []
  · subst h; simp
  · have e : ∀ t : List Int, t ≠ [] → ((t.map numS).map (·.length)).sum + t.length ≤ (hdS t).length + 1 := fun t ht => by
      rw [lens_tl, len_tl, tl_hdS]
      have e1 : (t.map numS).map tl = t.map numZ := by rw [List.map_map]; exact List.map_congr_left fun i _ => tl_numS i
      rw [e1]
      induction t with
      | nil => exact absurd rfl ht
      | cons a r ih =>
        cases r with
        | nil => simp [joinL]
        | cons b r =>
          have := ih (by simp) (by rw [List.map_map]; exact List.map_congr_left fun i _ => tl_numS i)
          rw [List.map_cons, joinL_cons (by simp)]
          simp only [List.map_cons, List.sum_cons, List.length_cons, List.length_append] at this ⊢
          omega
    have := e s h
    omega
theorem Bt.sl {s c : List Int} (g : Bt s c) : ∀ i ∈ s, i.natAbs.log2 < 1920 := fun i hi => sz_log g.sh hi
theorem arepr_ok {s c : List Int} (g : Bt s c) {P : D → Prop} {X : XP} (q : P (.str (rpS s c))) : F_Array___repr__ [ar s c] P X := by
  have sz : (1000000 : Nat) < sizeLine := by decide
  have h1 := tt_len c
  have h2 := g.cs
  have h3 := g.ss
  have h4 := tupleText_len_le (PyData.shownAll (s.map PyData.int))
  rw [shown_nums, List.length_map] at h4
  have h5 : shT s = tupleText (s.map numS) := by unfold shT; rw [PyData.shown, shown_nums]
  rw [← h5] at h4
  have l1 : (Str.ofString "Array(").length = 6 := by decide +kernel
  have l2 : (Str.ofString ", ").length = 2 := by decide +kernel
  have l3 : (Str.ofString ")").length = 1 := by decide +kernel
  have k1 := @fmt_ti s g.sl g.ss
  have k2 : ∀ P : D → Prop, P (.str (ttS c)) → oFmtTB (ti c) P := fun P => tupB_ok g.fg g.cs
  unfold F_Array___repr__ B_Array___repr__
  generalize oFmtR = O1 at k1 ⊢
  generalize oFmtTB = O2 at k2 ⊢
  simp only [sRet, aJ, jGo, aC, aU, em_app, endP]
  refine ⟨by omega, ?_⟩
  refine goFld ?_
  repeat (first | fail "step")
  refine k1 ?_
  simp only [Str.length_append]
  refine ⟨by omega, by omega, ?_⟩
  refine goFld ?_
  repeat (first | fail "step")
  refine k2 _ ?_
  exact ⟨by omega, by omega, q⟩
theorem brepr_ok {s c : List Int} (g : Bt s c) {P : D → Prop} (q : P (.str (ttS c))) : fReprTB [ti c] P := tupB_ok g.fg g.cs q
theorem dropO_nil : ∀ (k : Nat) (ρ : Ev), dropO [] k ρ = ρ
  | _, [] => rfl
  | k, d :: r => by rw [dropO, dropO_nil (k + 1) r, if_neg (by simp)]
theorem goXf {tb : Nat → Option Nat} {i : Nat} {ρ : Ev} {x v : D} {P : D → Ev → Prop} {X : XP} (e : sl ρ i = some x) (e2 : xfD tb x = some v) (h : P v ρ) : aXf tb (aV i) ρ P X := by
  unfold aXf aV
  simp only [e, e2]
  exact h
theorem isN_x {c : Nat} {ds : List D} {P : D → Prop} (q : P (.bl false)) : oIsN (.exc c ds) .non P := q
theorem told_read {x : Str} {s c : List Int} (e : rdL (tl x) = some (s, c)) (ex : txS s c = x) (g : Bt s c) (hb : x.length ≤ 100000) (hs : (tl x).count 32 ≤ 10000) {P : D → Prop} {X : XP} (q : P (.tup [.str "read", .str (rpS s c), .bl true, .bl true])) : F__law_told [.str x] P X := by
  have sz : (1000000 : Nat) < sizeLine := by decide
  have k0 : ∀ {P : D → Prop} {X : XP}, P (ar s c) → F_read_array [.str x] P X := fun q => read_ok hb hs (fun s' c' e' => by rw [e] at e'; cases e'; exact q) (fun z => by rw [e] at z; cases z)
  have k1 : ∀ P : D → Prop, P (.str (rpS s c)) → on1 0 F_Array___repr__ gStr [ar s c] P := fun P q => ⟨rfl, arepr_ok g ⟨_, rfl, q⟩⟩
  have k2 : ∀ P : D → Prop, P (.str (txS s c)) → on1 0 F_Array___str__ gStr [ar s c] P := fun P q => ⟨rfl, str_ok g ⟨_, rfl, q⟩⟩
  unfold F__law_told B__law_told
  generalize F_read_array = F1 at k0 ⊢
  generalize on1 0 F_Array___repr__ gStr = G1 at k1 ⊢
  generalize on1 0 F_Array___str__ gStr = G2 at k2 ⊢
  repeat (first | fail "step")
  refine ⟨by show 3 < 5; decide, callK01 rfl (k0 ?_)⟩
  repeat (first | fail "step")
  refine k1 _ ?_
  repeat (first | fail "step")
  refine k2 _ ?_
  repeat (first | fail "step")
  rw [decide_eq_true ex]
  exact q
theorem told_no {d : D} {z : Str} (hr : ∀ {P : D → Prop} {X : XP}, X (.exc 1 [d]) → F_read_array [d] P X) (hz : ∀ P : D → Prop, P (.str z) → fReprT [d] P) {P : D → Prop} {X : XP} (q : P (.tup [.str "refused", .str z, .bl true])) : F__law_told [d] P X := by
  have sz : (1000000 : Nat) < sizeLine := by decide
  unfold F__law_told B__law_told
  generalize F_read_array = F1 at hr ⊢
  generalize fReprT = G1 at hz ⊢
  repeat (first | fail "step")
  refine ⟨by show 3 < 5; decide, callK01 rfl (hr ⟨1, _, rfl, by decide, ?_⟩)⟩
  rw [dropO_nil]
  repeat (first | fail "step")
  refine isN_x ?_
  repeat (first | fail "step")
  refine goXf rfl rfl ?_
  repeat (first | fail "step")
  refine hz _ ?_
  repeat (first | fail "step")
  exact q
end Cr

namespace Cr
open PySem PySem.Builtin PySem.Builtin.Str PyProof.Rows L2 Al TL NumText
open Lean in
local macro_rules
  | `(tactic| fail $s:str) => match s.getString with
    | "side" => `(tactic| first | assumption | exact trivial | exact rfl | omega | (simp only [List.length_map, List.length_cons, List.length_nil, List.length_append, List.length_replicate, List.length_range, List.length_take, List.length_drop, List.length_reverse, List.length_set]; omega) | decide | (simp only [List.length_map, List.length_cons, List.length_nil, List.length_append, List.length_replicate, List.length_range]; decide) | exact mul_small (by omega) | exact mul_small' (by omega))
    | "one" => `(tactic| first | fail "one0" | fail "one1" | fail "one2" | fail "one3" | fail "one4" | fail "one5" | fail "one6" | fail "one7" | fail "one8" | fail "one9" | fail "one10" | fail "one11" | fail "one12" | fail "one13" | fail "one14" | fail "one15" | fail "one16")
    | "one0" => `(tactic| first | (with_reducible apply Al.goP) | (with_reducible apply Al.goO) | (with_reducible apply Al.goJ) | (with_reducible apply Al.goSeq) | (with_reducible apply Al.stSet) | (with_reducible apply Al.stExpr) | (with_reducible apply Al.stNext) | (with_reducible apply Al.stAsg))
    | "one1" => `(tactic| first | (with_reducible apply Al.goIf) | (with_reducible apply Al.goRet) | (with_reducible apply Al.goRetN) | (with_reducible apply Al.goFor) | (with_reducible apply Al.goFor0) | (with_reducible apply Al.goAug) | (with_reducible apply Al.goParO) | (with_reducible apply Al.stPar))
    | "one2" => `(tactic| first | (with_reducible apply Al.goPar3) | (with_reducible apply Al.goIxS) | (with_reducible apply Al.goBrk) | (with_reducible apply Al.goCnt) | (with_reducible apply Al.stO) | (with_reducible apply Al.stC) | (with_reducible apply Al.stNil) | (with_reducible apply Al.stCons))
    | "one3" => `(tactic| first | (with_reducible apply Al.stW0) | (with_reducible apply Al.stW1) | (with_reducible apply Al.stW2) | (with_reducible apply Al.stW3) | (with_reducible apply Al.stW4) | (with_reducible apply Al.stW5) | (with_reducible apply Al.stW6) | (with_reducible apply Al.stTup))
    | "one4" => `(tactic| first | (with_reducible apply Al.stLst) | (with_reducible apply Al.stF) | (with_reducible apply Al.stCall) | (with_reducible apply Al.stCallD) | (with_reducible apply Al.stU) | (with_reducible apply Al.stSl) | (with_reducible apply Al.stpN) | (with_reducible apply Al.stpS))
    | "one5" => `(tactic| first | (with_reducible apply Al.onInt_i) | (with_reducible apply Al.onBl_i) | (with_reducible apply Al.onLst_i) | (with_reducible apply Al.onTup_i) | (with_reducible apply Al.onStr_i) | (with_reducible apply Al.onInt1_i) | (with_reducible apply Al.on2_i) | (with_reducible apply Al.on3_i))
    | "one6" => `(tactic| first | (with_reducible apply Al.onIns_i) | (with_reducible apply Al.onNon_i) | (with_reducible apply Al.stB) | (with_reducible apply Al.stTr) | (with_reducible apply Al.stTOr) | (with_reducible apply Al.stTAnd) | (with_reducible apply Al.stTNot) | (with_reducible apply Al.stAnd))
    | "one7" => `(tactic| first | (with_reducible apply Al.stOr) | (with_reducible apply Al.stNot) | (with_reducible apply Al.stIfE) | (with_reducible apply Al.stIs) | (with_reducible apply Al.stM1) | (with_reducible apply Al.stiL) | (with_reducible apply Al.stiT) | (with_reducible apply Al.goiR1))
    | "one8" => `(tactic| first | (with_reducible apply Al.goiS) | (with_reducible apply Al.goFld) | (with_reducible apply Al.goFldO) | (with_reducible apply Al.goCh) | (with_reducible apply Al.goIxO) | (with_reducible apply Al.goApp) | (with_reducible apply Al.goExt) | (with_reducible apply Al.goLenO))
    | "one9" => `(tactic| first | (with_reducible apply Al.goTupO) | (with_reducible apply Al.goRev) | (with_reducible apply Al.goEmpO) | (with_reducible apply Al.goMeth) | (with_reducible apply Al.goMake) | (with_reducible apply Al.goTy) | (with_reducible apply Al.goNm) | (with_reducible apply Al.goV))
    | "one10" => `(tactic| first | (with_reducible apply Al.goCallJ) | (with_reducible apply Al.if_t) | (with_reducible apply Al.if_f) | (with_reducible apply Al.if_tn) | (with_reducible apply Al.if_fn) | (with_reducible apply Al.if_T) | (with_reducible apply Al.opI) | (with_reducible apply Al.opAddI))
    | "one11" => `(tactic| first | (with_reducible apply Al.opEqI) | (with_reducible apply Al.opEqS) | (with_reducible apply Al.opEqE) | (with_reducible apply Al.opNeI) | (with_reducible apply Al.opNeS) | (with_reducible apply Al.opNeE) | (with_reducible apply Al.opEqT) | (with_reducible apply Al.opNeT))
    | "one12" => `(tactic| first | (with_reducible apply Al.opNeg) | (with_reducible apply Al.opIxL) | (with_reducible apply Al.opIxT) | (with_reducible apply Al.opSlT) | (with_reducible apply Al.opSlL) | (with_reducible apply Al.opLenL) | (with_reducible apply Al.opLenT) | (with_reducible apply Al.opLenC))
    | "one13" => `(tactic| first | (with_reducible apply Al.opStrS) | (with_reducible apply Al.opTupL) | (with_reducible apply Al.opTupT) | (with_reducible apply Al.opLstT) | (with_reducible apply Al.opLstL) | (with_reducible apply Al.opEqN) | (with_reducible apply Al.opIsN_i) | (with_reducible apply Al.opIsN_s))
    | "one14" => `(tactic| first | (with_reducible apply Al.opIsN_t) | (with_reducible apply Al.opIsN_l) | (with_reducible apply Al.opNotN_i) | (with_reducible apply Al.opNotN_n) | (with_reducible apply Al.opMax) | (with_reducible apply Al.opMin) | (with_reducible apply Al.opAbs) | (with_reducible apply Al.opIntI))
    | "one15" => `(tactic| first | (with_reducible apply Al.opIntB) | (with_reducible apply Al.opRevL) | (with_reducible apply Al.opRevT) | (with_reducible apply Al.ifNN) | (with_reducible apply Al.goDisp) | (with_reducible apply Al.goDgo0) | (with_reducible apply Al.goDgo) | (with_reducible apply Al.at0c))
    | "one16" => `(tactic| first | (with_reducible apply Al.at0m) | (with_reducible apply Al.at1c) | (with_reducible apply Al.at2c) | (with_reducible apply Al.at3c))
    | "rfl" => `(tactic| first | fail "rfl0" | fail "rfl1")
    | "rfl0" => `(tactic| first | ((with_reducible apply Al.stW); exact rfl) | ((with_reducible apply Al.stV); exact rfl) | ((with_reducible apply Al.stM); exact rfl) | ((with_reducible apply Al.goWL); exact rfl) | ((with_reducible apply Al.goWD); exact rfl) | ((with_reducible apply Al.goAt0); exact rfl) | ((with_reducible apply Al.goAtj); exact rfl) | ((with_reducible apply Al.onSome_i); exact rfl))
    | "rfl1" => `(tactic| first | ((with_reducible apply Al.goTp); exact rfl) | ((with_reducible apply Al.goOwn); exact rfl) | ((with_reducible apply Al.goWJ); exact rfl) | ((with_reducible apply Al.stCallO); exact rfl))
    | "conj" => `(tactic| first | fail "conj0" | fail "conj1")
    | "conj0" => `(tactic| first | (with_reducible apply Al.opIC) | (with_reducible apply Al.opAddS) | (with_reducible apply Al.opAddT) | (with_reducible apply Al.opAddL) | (with_reducible apply Al.opMulI) | (with_reducible apply Al.opSlS) | (with_reducible apply Al.opLenS) | (with_reducible apply Al.opStrI))
    | "conj1" => `(tactic| first | ((with_reducible refine And.intro ?_ ?_); fail "side") | ((with_reducible apply Al.goStL); fail "side") | ((with_reducible apply Al.goStT); fail "side"))
    | "ifs" => `(tactic| first | ((with_reducible apply Al.ifT); fail "side") | ((with_reducible apply Al.ifF); fail "side") | ((with_reducible apply Al.ifTn); fail "side") | ((with_reducible apply Al.ifFn); fail "side") | ((with_reducible apply Al.ifT'); fail "side") | ((with_reducible apply Al.ifF'); fail "side") | ((with_reducible apply Al.ifTb); exact rfl) | ((with_reducible apply Al.ifFb); exact rfl))
    | "norm" => `(tactic| simp only [List.set_cons_zero, List.set_cons_succ, Al.setAll_c, Al.setAll_0, Int.toNat_natCast, Al.cut1c, Al.cut1m, Al.cutAll, List.cons_append, List.nil_append])
    | "step" => `(tactic| first | fail "one" | fail "rfl" | fail "norm" | fail "conj" | fail "ifs")
    | _ => Macro.throwUnsupported

/-! ### words put together -/
def mu (zs : List Str) : Nat := (zs.map (·.length)).sum + zs.length
def ka (zs : List Str) : Nat := (zs.map fun w => (tl w).count 32).sum + zs.length
theorem mu_app (a b : List Str) : mu (a ++ b) = mu a + mu b := by
  unfold mu
  simp only [List.map_append, List.sum_append, List.length_append]
  omega
theorem ka_app (a b : List Str) : ka (a ++ b) = ka a + ka b := by
  unfold ka
  simp only [List.map_append, List.sum_append, List.length_append]
  omega
theorem mu_rev (a : List Str) : mu a.reverse = mu a := by
  unfold mu
  rw [List.map_reverse, List.sum_reverse, List.length_reverse]
theorem ka_rev (a : List Str) : ka a.reverse = ka a := by
  unfold ka
  rw [List.map_reverse, List.sum_reverse, List.length_reverse]
theorem joinL_count : ∀ ps : List (List Nat), (joinL [32] ps).count 32 ≤ (ps.map (·.count 32)).sum + ps.length
  | [] => by simp [joinL]
  | p :: q => by
    by_cases h : q = []
    · subst h; simp [joinL]
    · rw [joinL_cons h]
      have := joinL_count q
      simp at this ⊢
      omega
/-- a text that is not too long, with few blanks -/
structure Tk (L C : Nat) (x : Str) : Prop where
  ln : x.length ≤ L
  ct : (tl x).count 32 ≤ C
  so : PyData.strOk x = true
structure Zk (L C : Nat) (zs : List Str) : Prop where
  mu : mu zs ≤ L
  ka : ka zs ≤ C
  so : ∀ w ∈ zs, PyData.strOk w = true
theorem Tk.up {L C L' C' : Nat} {x : Str} (h : Tk L C x) (hL : L ≤ L') (hC : C ≤ C') : Tk L' C' x := ⟨Nat.le_trans h.ln hL, Nat.le_trans h.ct hC, h.so⟩
theorem Zk.join {L C : Nat} {zs : List Str} (h : Zk L C zs) : Tk L C (Txt.join (Str.ofString " ") zs) := by
  refine ⟨?_, ?_, ?_⟩
  · have h1 := joinL_len 32 (zs.map tl)
    have h2 := h.mu
    unfold Cr.mu at h2
    rw [lens_tl] at h2
    rw [List.length_map] at h1
    rw [len_tl, tl_Tjoin, sp_tl]
    omega
  · have h1 := joinL_count (zs.map tl)
    have h2 := h.ka
    unfold Cr.ka at h2
    rw [List.length_map, List.map_map] at h1
    rw [tl_Tjoin, sp_tl]
    exact Nat.le_trans h1 h2
  · rw [show Txt.join (Str.ofString " ") zs = Str.join (Str.ofString " ") zs from StrLaws.glued_eq_join _ _]
    exact so_join _ (so_of _) zs h.so
theorem Zk.app {L C L' C' : Nat} {a b : List Str} (h : Zk L C a) (h' : Zk L' C' b) : Zk (L + L') (C + C') (a ++ b) := by
  refine ⟨?_, ?_, fun w hw => ?_⟩
  · rw [mu_app]; exact Nat.add_le_add h.mu h'.mu
  · rw [ka_app]; exact Nat.add_le_add h.ka h'.ka
  · rcases List.mem_append.mp hw with k | k
    · exact h.so w k
    · exact h'.so w k
theorem Zk.up {L C L' C' : Nat} {a : List Str} (h : Zk L C a) (hL : L ≤ L') (hC : C ≤ C') : Zk L' C' a := ⟨Nat.le_trans h.mu hL, Nat.le_trans h.ka hC, h.so⟩
theorem Zk.take {L C : Nat} {a : List Str} (h : Zk L C a) (k : Nat) : Zk L C (a.take k) := by
  have e := List.take_append_drop k a
  have h1 := mu_app (a.take k) (a.drop k)
  have h2 := ka_app (a.take k) (a.drop k)
  rw [e] at h1 h2
  have := h.mu
  have := h.ka
  exact ⟨by omega, by omega, fun w hw => h.so w (List.mem_of_mem_take hw)⟩
theorem Zk.drop {L C : Nat} {a : List Str} (h : Zk L C a) (k : Nat) : Zk L C (a.drop k) := by
  have e := List.take_append_drop k a
  have h1 := mu_app (a.take k) (a.drop k)
  have h2 := ka_app (a.take k) (a.drop k)
  rw [e] at h1 h2
  have := h.mu
  have := h.ka
  exact ⟨by omega, by omega, fun w hw => h.so w (List.mem_of_mem_drop hw)⟩
theorem Zk.mid {L C L' C' : Nat} {a o : List Str} (h : Zk L C a) (ho : Zk L' C' o) (n : Nat) : Zk (L + L') (C + C') (a.take n ++ o ++ a.drop n) := by
  have e := List.take_append_drop n a
  have h1 := mu_app (a.take n) (a.drop n)
  have h2 := ka_app (a.take n) (a.drop n)
  rw [e] at h1 h2
  have := h.mu
  have := h.ka
  have := ho.mu
  have := ho.ka
  refine ⟨by rw [mu_app, mu_app]; omega, by rw [ka_app, ka_app]; omega, fun w hw => ?_⟩
  simp only [List.mem_append] at hw
  rcases hw with (k | k) | k
  · exact h.so w (List.mem_of_mem_take k)
  · exact ho.so w k
  · exact h.so w (List.mem_of_mem_drop k)
theorem Zk.rev {L C : Nat} {a : List Str} (h : Zk L C a) : Zk L C a.reverse := ⟨by rw [mu_rev]; exact h.mu, by rw [ka_rev]; exact h.ka, fun w hw => h.so w (List.mem_reverse.mp hw)⟩
theorem Zk.one {w : Str} {L C : Nat} (h : Tk L C w) : Zk (L + 1) (C + 1) [w] := ⟨by
  have := h.ln
  unfold Cr.mu
  simp
  exact this, by
  have := h.ct
  unfold Cr.ka
  simp only [List.map_cons, List.map_nil, List.sum_cons, List.sum_nil, List.length_cons, List.length_nil]
  omega, fun v hv => by rw [List.mem_singleton.mp hv]; exact h.so⟩
theorem so_mem {x : Str} : PyData.strOk x = true ↔ ∀ c ∈ tl x, c < 0x110000 := by
  rw [so_tl, List.all_eq_true]
  constructor
  · intro h c hc; simpa using h c hc
  · intro h c hc; simpa using h c hc
theorem split_zk {x : Str} {L C : Nat} (h : Tk L C x) : Zk (L + 1) (C + 1) (Txt.split x (Str.ofString " ")) := by
  have hs := split32 x
  refine ⟨?_, ?_, fun w hw => ?_⟩
  · have h1 := sp1_sum 32 (tl x)
    rw [← hs, ← lens_tl, List.length_map, ← len_tl] at h1
    have := h.ln
    unfold Cr.mu
    omega
  · have h1 := spl_len x
    have h0 : ((Txt.split x (Str.ofString " ")).map fun w => (tl w).count 32).sum = 0 := by
      have : (Txt.split x (Str.ofString " ")).map (fun w => (tl w).count 32) = ((Txt.split x (Str.ofString " ")).map tl).map (·.count 32) := by rw [List.map_map]; rfl
      rw [this, hs]
      have hz : ∀ w ∈ sp1 32 (tl x), w.count 32 = 0 := fun w hw => List.count_eq_zero.mpr (sp1_mem 32 _ w hw).1
      generalize sp1 32 (tl x) = ps at hz
      induction ps with
      | nil => rfl
      | cons p ps ih =>
        rw [List.map_cons, List.sum_cons, hz p (by simp), ih (fun w hw => hz w (by simp [hw]))]
    have := h.ct
    unfold Cr.ka
    omega
  · have h1 : tl w ∈ sp1 32 (tl x) := by rw [← hs]; exact List.mem_map_of_mem hw
    obtain ⟨a, b, e⟩ := (sp1_mem 32 _ _ h1).2
    have h2 := so_mem.mp h.so
    refine so_mem.mpr fun c hc => h2 c ?_
    rw [e]
    simp [hc]
/-! ### pieces of a text -/
theorem Tk.app {L C L' C' : Nat} {x y : Str} (h : Tk L C x) (h' : Tk L' C' y) : Tk (L + L') (C + C') (x ++ y) := by
  refine ⟨?_, ?_, so_app h.so h'.so⟩
  · rw [len_app]; exact Nat.add_le_add h.ln h'.ln
  · rw [tl_append, List.count_append]; exact Nat.add_le_add h.ct h'.ct
theorem tk_sub {L C : Nat} {x y : Str} (h : Tk L C x) (e : (tl y).Sublist (tl x)) : Tk L C y := by
  refine ⟨?_, Nat.le_trans (e.count_le _) h.ct, so_mem.mpr fun c hc => so_mem.mp h.so c (e.subset hc)⟩
  have := e.length_le
  have := h.ln
  rw [len_tl] at *
  omega
theorem tk_rev {L C : Nat} {x : Str} (h : Tk L C x) : Tk L C (revS x) := by
  have e : tl (revS x) = (tl x).reverse := by simp [revS, tl]
  refine ⟨by rw [revS_length]; exact h.ln, by rw [e, List.count_reverse]; exact h.ct, so_mem.mpr fun c hc => so_mem.mp h.so c (by rw [e] at hc; simpa using hc)⟩
theorem repS_tl (x : Str) : ∀ n, tl (repS x n) = (List.replicate n (tl x)).flatten := fun n => by
  have key : ∀ (n : Nat) (a : Array Nat), ((List.replicate n x.cps).foldl (· ++ ·) a).toList = a.toList ++ (List.replicate n x.cps.toList).flatten := by
    intro n
    induction n with
    | zero => intro a; simp
    | succ n ih => intro a; rw [List.replicate_succ, List.foldl_cons, ih, List.replicate_succ, List.flatten_cons]; simp
  show ((List.replicate n x.cps).foldl (· ++ ·) #[]).toList = _
  rw [key]; rfl
theorem repS_one {x : Str} {c : Nat} (e : tl x = [c]) (n : Nat) : tl (repS x n) = List.replicate n c := by
  rw [repS_tl, e]
  induction n with
  | zero => rfl
  | succ n ih => rw [List.replicate_succ, List.flatten_cons, ih]; rfl
theorem tk_rep {x : Str} {c : Nat} (e : tl x = [c]) (hc : c ≠ 32) (hc2 : c < 0x110000) (n : Nat) : Tk n 0 (repS x n) := by
  have h := repS_one e n
  refine ⟨by rw [len_tl, h, List.length_replicate]; omega, by rw [h, List.count_replicate]; simp [hc], so_mem.mpr fun d hd => ?_⟩
  rw [h] at hd
  rw [(List.mem_replicate.mp hd).2]; exact hc2
def SG : Str := Str.ofString " !\"#$&'()*+,-./0123456789:;<=>?@ABCDEFGHIJKLMNOPQRSTUVWXYZ" ++ Str.ofString "[\\]^_`abcdefghijklmnopqrstuvwxyz{|}~\n"
theorem sg_len : SG.length = 95 := by decide +kernel
theorem sg_so : PyData.strOk SG = true := so_app (so_of _) (so_of _)
theorem of_okS {k : Nat} {f : D} {z : Str} {P : D → D → Prop} {X : XP} (hf : FeedOk k f) (n0 : 0 < z.length) (n1 : z.length < 1000) (kb : k < 1073741824) (q : ∀ c ∈ tl z, ∀ f', FeedOk (k + 1) f' → P (.str ⟨#[c]⟩) f') : F__law_of f [.str z] P X := by
  have sz : (1000000 : Nat) < sizeLine := by decide
  unfold F__law_of B__law_of
  simp only [sSeq, sIf, sSet, sRet, sNext, sExpr, sAsg, sPar, sPar3, aB, aO, aU, aV, aC, aF, aIf, aAnd, aOr, aNot, aTAnd, aTOr, aTNot, aTr, aCh, aIs, aCall, aTup, aLst, aCons, aNil, aM1, aSl, pN, pS, withV, vals, sl, List.set_cons_zero, List.set_cons_succ, List.set_nil, Option.map_some, endP, endO, at0s, if_true, if_false, Bool.false_eq_true, isT, tyS, fI, fIC, fLenA, Bool.not_true, Bool.not_false, iS, iL, iT, reduceCtorEq, aCallO]
  refine ⟨by omega, ?_⟩
  refine draw_ok hf (by omega) (by omega) kb fun d f' d0 d1 hf' => ?_
  obtain ⟨x, e, hx⟩ := atI_in (l := tl z) d0 (by rw [← len_tl]; exact d1)
  simp only [sSeq, sIf, sSet, sRet, sNext, sExpr, sAsg, sPar, sPar3, aB, aO, aU, aV, aC, aF, aIf, aAnd, aOr, aNot, aTAnd, aTOr, aTNot, aTr, aCh, aIs, aCall, aTup, aLst, aCons, aNil, aM1, aSl, pN, pS, withV, vals, sl, List.set_cons_zero, List.set_cons_succ, List.set_nil, Option.map_some, endP, endO, at0s, if_true, if_false, Bool.false_eq_true, isT, tyS, fI, fIC, fLenA, Bool.not_true, Bool.not_false, iS, iL, iT, reduceCtorEq, oIx, oIxS]
  refine ⟨by omega, ?_⟩
  rw [show z.cps.toList = tl z from rfl, e]
  exact q x hx f' hf'
theorem cutD_mid (z : List D) (j k : Nat) (h : j ≤ k) : Al.cutD z (some (j : Int)) (some (k : Int)) = (z.drop j).take (k - j) := by
  unfold Al.cutD
  rw [HT.sIx_nat, HT.sIx_nat]
  by_cases h1 : j ≤ z.length
  · rw [Nat.min_eq_left h1]
    by_cases h2 : k ≤ z.length
    · rw [Nat.min_eq_left h2]
    · rw [Nat.min_eq_right (by omega), List.take_of_length_le (by rw [List.length_drop]; omega), List.take_of_length_le (by rw [List.length_drop]; omega)]
  · rw [Nat.min_eq_right (show z.length ≤ j by omega), List.drop_length, List.drop_of_length_le (show z.length ≤ j by omega)]
    simp
theorem at_mem {l : List D} {i : Int} {k : D → Prop} (h0 : 0 ≤ i) (h1 : i < l.length) (h : ∀ d ∈ l, k d) : onSome (atI l i) k := by
  obtain ⟨x, e, hx⟩ := atI_in h0 h1
  rw [e]
  exact h x hx
theorem rep_mul {z : Str} {c : Nat} {n : Int} {P : D → Prop} (n2 : 2 ≤ n) (n5 : n ≤ 4001) (hz : tl z = [c]) (hc : c ≠ 32) (hc2 : c < 0x110000) (q : ∀ r, Tk 4001 0 r → P (.str r)) : oMulA (.str z) (.int n) P := by
  have sz : (1000000 : Nat) < sizeLine := by decide
  have hl : z.length = 1 := by rw [len_tl, hz]; rfl
  exact ⟨⟨n2, by omega, by omega, by rw [hl]; omega⟩, q _ ((tk_rep hz hc hc2 n.toNat).up (by omega) (Nat.le_refl _))⟩
theorem tk_lit {s : String} (h1 : (Str.ofString s).length ≤ 4002) (h2 : (tl (Str.ofString s)).count 32 = 0) : Tk 4002 0 (Str.ofString s) := ⟨h1, by omega, so_of s⟩
theorem tk_one {s : String} (h1 : (Str.ofString s).length = 1) (h2 : (tl (Str.ofString s)).count 32 = 0) : Tk 1 0 (Str.ofString s) := ⟨by omega, by omega, so_of s⟩
theorem joinT {ds : List D} {zs : List Str} {A B : Nat} {P : D → Prop} (e : ds = zs.map D.str) (z : Zk A B zs) (hA : A ≤ 200000) (q : ∀ y, Tk A B y → P (.str y)) : mJoin (Str.ofString " ") (.lst ds) P := by
  subst e
  have h := z.mu
  unfold Cr.mu at h
  exact join_ok (by rw [show (Str.ofString " ").length = 1 by decide +kernel]; omega) (q _ z.join)
theorem spoilt_ok {k L C : Nat} {f : D} {x : Str} {P : D → D → Prop} {X : XP} (hf : FeedOk k f) (hx : Tk L C x) (hL : L ≤ 40000) (hC : C ≤ 4000) (kb : k < 1073741700) (q : ∀ y f', Tk (2 * L + 4010) (2 * C + 10) y → FeedOk (k + 10) f' → P (.str y) f') : F__law_spoilt f [.str x] P X := by
  have sz : (1000000 : Nat) < sizeLine := by decide
  have kd := @draw_ok
  have ko := @of_okS
  have kl := @of_ok
  have hl := hx.ln
  have hc := hx.ct
  have n1 := spl_len x
  unfold F__law_spoilt B__law_spoilt
  generalize F__law_draw = F1 at kd ⊢
  generalize F__law_of = F2 at ko kl ⊢
  repeat (first | fail "step")
  refine kd hf (by omega) (by omega) (by omega) fun at_ f1 a0 a1 hf1 => ?_
  obtain ⟨m, rfl⟩ := Int.eq_ofNat_of_zero_le a0
  repeat (first | fail "step")
  refine ko hf1 (show 0 < SG.length by rw [sg_len]; decide) (show SG.length < 1000 by rw [sg_len]; decide) (by omega) fun sg hsg f2 hf2 => ?_
  have tg : Tk 1 1 ⟨#[sg]⟩ := ⟨Nat.le_refl _, by
    have := List.count_le_length (a := 32) (l := [sg])
    exact this, so_mem.mpr fun c hc => by
    have : c = sg := by simpa [tl] using hc
    rw [this]; exact so_mem.mp sg_so sg hsg⟩
  generalize (⟨#[sg]⟩ : Str) = g at tg ⊢
  repeat (first | fail "step")
  refine kd hf2 (by decide) (by decide) (by omega) fun way f3 w0 w1 hf3 => ?_
  repeat (first | fail "step")
  refine ⟨⟨by decide +kernel, by omega⟩, ?_⟩
  have zw := split_zk hx
  generalize Txt.split x (Str.ofString " ") = ws at n1 zw ⊢
  repeat (first | fail "step")
  rw [List.length_map]
  refine kd hf3 (by omega) (by omega) (by omega) fun spot f4 s0 s1 hf4 => ?_
  obtain ⟨n, rfl⟩ := Int.eq_ofNat_of_zero_le s0
  repeat (first | fail "step")
  have z9 : tl (Str.ofString "9") = [57] := by decide +kernel
  have z0 : tl (Str.ofString "0") = [48] := by decide +kernel
  have zm : (Str.ofString "-").length = 1 := by decide +kernel
  have z1 : (Str.ofString "1").length = 1 := by decide +kernel
  refine rep_mul (by decide) (by decide) z9 (by decide) (by decide) fun r1 t1 => ?_
  repeat (first | fail "step")
  refine rep_mul (by decide) (by decide) z9 (by decide) (by decide) fun r2 t2 => ?_
  have e1 := t1.ln
  have e2 := t2.ln
  repeat (first | fail "step")
  refine rep_mul (by decide) (by decide) z9 (by decide) (by decide) fun r3 t3 => ?_
  have e3 := t3.ln
  repeat (first | fail "step")
  refine rep_mul (by decide) (by decide) z9 (by decide) (by decide) fun r4 t4 => ?_
  have e4 := t4.ln
  repeat (first | fail "step")
  refine rep_mul (by decide) (by decide) z0 (by decide) (by decide) fun r5 t5 => ?_
  have e5 := t5.ln
  repeat (first | fail "step")
  refine kl hf4 (Nat.succ_pos _) (by simp only [List.length_cons, List.length_nil]; omega) (by omega) fun d hd f5 hf5 => ?_
  have hm : ∃ mo, d = .str mo ∧ Tk 4002 0 mo := by
    simp only [List.mem_cons, List.not_mem_nil, or_false] at hd
    rcases hd with rfl | rfl | rfl | rfl | rfl | rfl | rfl | rfl | rfl | rfl | rfl | rfl | rfl | rfl | rfl | rfl | rfl | rfl
    all_goals first | exact ⟨_, rfl, tk_lit (by decide +kernel) (by decide +kernel)⟩ | exact ⟨_, rfl, t1.up (by decide) (by decide)⟩ | exact ⟨_, rfl, t2.up (by decide) (by decide)⟩ | skip
    · exact ⟨_, rfl, (tk_one zm (by decide +kernel)).app t3⟩
    · exact ⟨_, rfl, (tk_one zm (by decide +kernel)).app t4⟩
    · exact ⟨_, rfl, (tk_one z1 (by decide +kernel)).app t5⟩
  obtain ⟨mo, rfl, tm⟩ := hm
  clear hd t1 t2 t3 t4 t5 e1 e2 e3 e4 e5
  have e1 : Al.cutD (List.map D.str ws) none (some (n : Int)) = (ws.take n).map D.str := by rw [cutD_head, List.map_take]
  have e2 : Al.cutD (List.map D.str ws) (some ((n : Int) + 1)) none = (ws.drop (n + 1)).map D.str := by rw [show (n : Int) + 1 = ((n + 1 : Nat) : Int) from rfl, cutD_tail, List.map_drop]
  have e3 : Al.cutD (List.map D.str ws) (some (n : Int)) none = (ws.drop n).map D.str := by rw [cutD_tail, List.map_drop]
  have e4 : Al.cutD (List.map D.str ws) none (some ((n : Int) + 1)) = (ws.take (n + 1)).map D.str := by rw [show (n : Int) + 1 = ((n + 1 : Nat) : Int) from rfl, cutD_head, List.map_take]
  have e5 : Al.cutD (List.map D.str ws) (some (n : Int)) (some ((n : Int) + 1)) = ((ws.drop n).take 1).map D.str := by rw [show (n : Int) + 1 = ((n + 1 : Nat) : Int) from rfl, cutD_mid _ _ _ (by omega), show n + 1 - n = 1 by omega, List.map_take, List.map_drop]
  rw [e1, e2]
  repeat (first | fail "step")
  have fin : ∀ y, Tk (2 * L + 4010) (2 * C + 10) y → P (.str y) f5 := fun y hy => q y f5 hy (hf5.up (by omega))
  by_cases c4 : way < 4
  · rw [decide_eq_true c4]
    have tb : Tk L C (cutS x none (some (m : Int))) := tk_sub hx (by rw [cut_head]; exact List.take_sublist _ _)
    have tc : Tk L C (cutS x (some (m : Int)) none) := tk_sub hx (by rw [cut_tail]; exact List.drop_sublist _ _)
    have tc1 : Tk L C (cutS (cutS x (some (m : Int)) none) (some 1) none) := tk_sub tc (by rw [show tl (cutS (cutS x (some (m : Int)) none) (some 1) none) = _ from cut_tail _ 1]; exact List.drop_sublist _ _)
    have tc3 : Tk L C (cutS (cutS x (some (m : Int)) none) (some 2) none) := tk_sub tc (by rw [show tl (cutS (cutS x (some (m : Int)) none) (some 2) none) = _ from cut_tail _ 2]; exact List.drop_sublist _ _)
    have tc2 : Tk 2 2 (cutS (cutS x (some (m : Int)) none) none (some 2)) := by
      have e : tl (cutS (cutS x (some (m : Int)) none) none (some 2)) = (tl (cutS x (some (m : Int)) none)).take 2 := cut_head _ 2
      have t : Tk L C (cutS (cutS x (some (m : Int)) none) none (some 2)) := tk_sub tc (by rw [e]; exact List.take_sublist _ _)
      have l2 : (cutS (cutS x (some (m : Int)) none) none (some 2)).length ≤ 2 := by rw [len_tl, e, List.length_take]; omega
      refine ⟨l2, ?_, t.so⟩
      have := List.count_le_length (a := 32) (l := tl (cutS (cutS x (some (m : Int)) none) none (some 2)))
      rw [← len_tl] at this
      omega
    have lg := tg.ln
    have lb := tb.ln
    have lc := tc.ln
    have lc1 := tc1.ln
    have lc2 := tc2.ln
    have lc3 := tc3.ln
    have lbg := (tb.app tg).ln
    have lr := (tk_rev tc2).ln
    have lbr := (tb.app (tk_rev tc2)).ln
    repeat (first | fail "step")
    refine ⟨by omega, ?_⟩
    repeat (first | fail "step")
    refine at_mem w0 (by simp only [List.length_cons, List.length_nil]; omega) fun d hd => ?_
    simp only [List.mem_cons, List.not_mem_nil, or_false] at hd
    rcases hd with rfl | rfl | rfl | rfl
    · exact goAt0 rfl (fin _ (((tb.app tg).app tc).up (by omega) (by omega)))
    · exact goAt0 rfl (fin _ ((tb.app tc1).up (by omega) (by omega)))
    · exact goAt0 rfl (fin _ (((tb.app tg).app tc1).up (by omega) (by omega)))
    · exact goAt0 rfl (fin _ (((tb.app (tk_rev tc2)).app tc3).up (by omega) (by omega)))
  · rw [decide_eq_false c4]
    repeat (first | fail "step" | simp only [e3, e4, e5])
    refine at_mem (by omega) (by simp only [List.length_cons, List.length_nil]; omega) fun d hd => ?_
    simp only [List.mem_cons, List.not_mem_nil, or_false] at hd
    rcases hd with rfl | rfl | rfl | rfl | rfl
    · exact joinT (zs := ws.take n ++ ws.drop (n + 1)) (by simp only [List.map_append]) ((zw.take n).app (zw.drop (n + 1))) (by omega) fun y hy => goAt0 rfl (fin y (hy.up (by omega) (by omega)))
    · exact joinT (zs := ws.take n ++ (ws.drop n).take 1 ++ ws.drop n) (by simp only [List.map_append]) (zw.mid ((zw.drop n).take 1) n) (by omega) fun y hy => goAt0 rfl (fin y (hy.up (by omega) (by omega)))
    · exact joinT (zs := ws.take n ++ [mo] ++ ws.drop (n + 1)) (by simp only [List.map_append, List.map_cons, List.map_nil]) (((zw.take n).app (Zk.one tm)).app (zw.drop (n + 1))) (by omega) fun y hy => goAt0 rfl (fin y (hy.up (by omega) (by omega)))
    · exact joinT (zs := ws.take n ++ [mo] ++ ws.drop n) (by simp only [List.map_append, List.map_cons, List.map_nil]) (zw.mid (Zk.one tm) n) (by omega) fun y hy => goAt0 rfl (fin y (hy.up (by omega) (by omega)))
    · exact joinT (zs := ws.take (n + 1) ++ ws.reverse) (by simp only [List.map_append, List.map_reverse]) ((zw.take (n + 1)).app zw.rev) (by omega) fun y hy => goAt0 rfl (fin y (hy.up (by omega) (by omega)))
end Cr

namespace Cr
open PySem PySem.Builtin PySem.Builtin.Str PyProof.Rows L2 Al TL NumText
open Lean in
local macro_rules
  | `(tactic| fail $s:str) => match s.getString with
    | "side" => `(tactic| first | assumption | exact trivial | exact rfl | omega | (simp only [List.length_map, List.length_cons, List.length_nil, List.length_append, List.length_replicate, List.length_range, List.length_take, List.length_drop, List.length_reverse, List.length_set]; omega) | decide | (simp only [List.length_map, List.length_cons, List.length_nil, List.length_append, List.length_replicate, List.length_range]; decide) | exact mul_small (by omega) | exact mul_small' (by omega))
    | "one" => `(tactic| first | fail "one0" | fail "one1" | fail "one2" | fail "one3" | fail "one4" | fail "one5" | fail "one6" | fail "one7" | fail "one8" | fail "one9" | fail "one10" | fail "one11" | fail "one12" | fail "one13" | fail "one14" | fail "one15" | fail "one16")
    | "one0" => `(tactic| first | (with_reducible apply Al.goP) | (with_reducible apply Al.goO) | (with_reducible apply Al.goJ) | (with_reducible apply Al.goSeq) | (with_reducible apply Al.stSet) | (with_reducible apply Al.stExpr) | (with_reducible apply Al.stNext) | (with_reducible apply Al.stAsg))
    | "one1" => `(tactic| first | (with_reducible apply Al.goIf) | (with_reducible apply Al.goRet) | (with_reducible apply Al.goRetN) | (with_reducible apply Al.goFor) | (with_reducible apply Al.goFor0) | (with_reducible apply Al.goAug) | (with_reducible apply Al.goParO) | (with_reducible apply Al.stPar))
    | "one2" => `(tactic| first | (with_reducible apply Al.goPar3) | (with_reducible apply Al.goIxS) | (with_reducible apply Al.goBrk) | (with_reducible apply Al.goCnt) | (with_reducible apply Al.stO) | (with_reducible apply Al.stC) | (with_reducible apply Al.stNil) | (with_reducible apply Al.stCons))
    | "one3" => `(tactic| first | (with_reducible apply Al.stW0) | (with_reducible apply Al.stW1) | (with_reducible apply Al.stW2) | (with_reducible apply Al.stW3) | (with_reducible apply Al.stW4) | (with_reducible apply Al.stW5) | (with_reducible apply Al.stW6) | (with_reducible apply Al.stTup))
    | "one4" => `(tactic| first | (with_reducible apply Al.stLst) | (with_reducible apply Al.stF) | (with_reducible apply Al.stCall) | (with_reducible apply Al.stCallD) | (with_reducible apply Al.stU) | (with_reducible apply Al.stSl) | (with_reducible apply Al.stpN) | (with_reducible apply Al.stpS))
    | "one5" => `(tactic| first | (with_reducible apply Al.onInt_i) | (with_reducible apply Al.onBl_i) | (with_reducible apply Al.onLst_i) | (with_reducible apply Al.onTup_i) | (with_reducible apply Al.onStr_i) | (with_reducible apply Al.onInt1_i) | (with_reducible apply Al.on2_i) | (with_reducible apply Al.on3_i))
    | "one6" => `(tactic| first | (with_reducible apply Al.onIns_i) | (with_reducible apply Al.onNon_i) | (with_reducible apply Al.stB) | (with_reducible apply Al.stTr) | (with_reducible apply Al.stTOr) | (with_reducible apply Al.stTAnd) | (with_reducible apply Al.stTNot) | (with_reducible apply Al.stAnd))
    | "one7" => `(tactic| first | (with_reducible apply Al.stOr) | (with_reducible apply Al.stNot) | (with_reducible apply Al.stIfE) | (with_reducible apply Al.stIs) | (with_reducible apply Al.stM1) | (with_reducible apply Al.stiL) | (with_reducible apply Al.stiT) | (with_reducible apply Al.goiR1))
    | "one8" => `(tactic| first | (with_reducible apply Al.goiS) | (with_reducible apply Al.goFld) | (with_reducible apply Al.goFldO) | (with_reducible apply Al.goCh) | (with_reducible apply Al.goIxO) | (with_reducible apply Al.goApp) | (with_reducible apply Al.goExt) | (with_reducible apply Al.goLenO))
    | "one9" => `(tactic| first | (with_reducible apply Al.goTupO) | (with_reducible apply Al.goRev) | (with_reducible apply Al.goEmpO) | (with_reducible apply Al.goMeth) | (with_reducible apply Al.goMake) | (with_reducible apply Al.goTy) | (with_reducible apply Al.goNm) | (with_reducible apply Al.goV))
    | "one10" => `(tactic| first | (with_reducible apply Al.goCallJ) | (with_reducible apply Al.if_t) | (with_reducible apply Al.if_f) | (with_reducible apply Al.if_tn) | (with_reducible apply Al.if_fn) | (with_reducible apply Al.if_T) | (with_reducible apply Al.opI) | (with_reducible apply Al.opAddI))
    | "one11" => `(tactic| first | (with_reducible apply Al.opEqI) | (with_reducible apply Al.opEqS) | (with_reducible apply Al.opEqE) | (with_reducible apply Al.opNeI) | (with_reducible apply Al.opNeS) | (with_reducible apply Al.opNeE) | (with_reducible apply Al.opEqT) | (with_reducible apply Al.opNeT))
    | "one12" => `(tactic| first | (with_reducible apply Al.opNeg) | (with_reducible apply Al.opIxL) | (with_reducible apply Al.opIxT) | (with_reducible apply Al.opSlT) | (with_reducible apply Al.opSlL) | (with_reducible apply Al.opLenL) | (with_reducible apply Al.opLenT) | (with_reducible apply Al.opLenC))
    | "one13" => `(tactic| first | (with_reducible apply Al.opStrS) | (with_reducible apply Al.opTupL) | (with_reducible apply Al.opTupT) | (with_reducible apply Al.opLstT) | (with_reducible apply Al.opLstL) | (with_reducible apply Al.opEqN) | (with_reducible apply Al.opIsN_i) | (with_reducible apply Al.opIsN_s))
    | "one14" => `(tactic| first | (with_reducible apply Al.opIsN_t) | (with_reducible apply Al.opIsN_l) | (with_reducible apply Al.opNotN_i) | (with_reducible apply Al.opNotN_n) | (with_reducible apply Al.opMax) | (with_reducible apply Al.opMin) | (with_reducible apply Al.opAbs) | (with_reducible apply Al.opIntI))
    | "one15" => `(tactic| first | (with_reducible apply Al.opIntB) | (with_reducible apply Al.opRevL) | (with_reducible apply Al.opRevT) | (with_reducible apply Al.ifNN) | (with_reducible apply Al.goDisp) | (with_reducible apply Al.goDgo0) | (with_reducible apply Al.goDgo) | (with_reducible apply Al.at0c))
    | "one16" => `(tactic| first | (with_reducible apply Al.at0m) | (with_reducible apply Al.at1c) | (with_reducible apply Al.at2c) | (with_reducible apply Al.at3c))
    | "rfl" => `(tactic| first | fail "rfl0" | fail "rfl1")
    | "rfl0" => `(tactic| first | ((with_reducible apply Al.stW); exact rfl) | ((with_reducible apply Al.stV); exact rfl) | ((with_reducible apply Al.stM); exact rfl) | ((with_reducible apply Al.goWL); exact rfl) | ((with_reducible apply Al.goWD); exact rfl) | ((with_reducible apply Al.goAt0); exact rfl) | ((with_reducible apply Al.goAtj); exact rfl) | ((with_reducible apply Al.onSome_i); exact rfl))
    | "rfl1" => `(tactic| first | ((with_reducible apply Al.goTp); exact rfl) | ((with_reducible apply Al.goOwn); exact rfl) | ((with_reducible apply Al.goWJ); exact rfl) | ((with_reducible apply Al.stCallO); exact rfl))
    | "conj" => `(tactic| first | fail "conj0" | fail "conj1")
    | "conj0" => `(tactic| first | (with_reducible apply Al.opIC) | (with_reducible apply Al.opAddS) | (with_reducible apply Al.opAddT) | (with_reducible apply Al.opAddL) | (with_reducible apply Al.opMulI) | (with_reducible apply Al.opSlS) | (with_reducible apply Al.opLenS) | (with_reducible apply Al.opStrI))
    | "conj1" => `(tactic| first | ((with_reducible refine And.intro ?_ ?_); fail "side") | ((with_reducible apply Al.goStL); fail "side") | ((with_reducible apply Al.goStT); fail "side"))
    | "ifs" => `(tactic| first | ((with_reducible apply Al.ifT); fail "side") | ((with_reducible apply Al.ifF); fail "side") | ((with_reducible apply Al.ifTn); fail "side") | ((with_reducible apply Al.ifFn); fail "side") | ((with_reducible apply Al.ifT'); fail "side") | ((with_reducible apply Al.ifF'); fail "side") | ((with_reducible apply Al.ifTb); exact rfl) | ((with_reducible apply Al.ifFb); exact rfl))
    | "norm" => `(tactic| simp only [List.set_cons_zero, List.set_cons_succ, Al.setAll_c, Al.setAll_0, Int.toNat_natCast, Al.cut1c, Al.cut1m, Al.cutAll, List.cons_append, List.nil_append])
    | "step" => `(tactic| first | fail "one" | fail "rfl" | fail "norm" | fail "conj" | fail "ifs")
    | _ => Macro.throwUnsupported

/-! ### great numbers -/
theorem ten_up {a b : Nat} (h : a ≤ b) : 10 ^ a ≤ 10 ^ b := Nat.pow_le_pow_right (by decide) h
theorem sum_450 {v e : Nat} (hv : v < 10 ^ 400) (he : e < 1000000) : v + e < 10 ^ 450 := by
  have h1 : 10 ^ 401 = 10 ^ 400 * 10 := Nat.pow_succ ..
  have h2 : 10 ^ 6 ≤ 10 ^ 400 := ten_up (by decide)
  have h3 : 10 ^ 401 ≤ 10 ^ 450 := ten_up (by decide)
  have h4 : (10 : Nat) ^ 6 = 1000000 := by decide
  rw [h1] at h3
  rw [h4] at h2
  generalize 10 ^ 400 = T at *
  generalize 10 ^ 450 = U at *
  omega
theorem ones_zeros (d : Nat) (hd : d < 400) : ∃ v : Nat, v < 10 ^ 400 ∧ intText? (Str.ofString "1" ++ repS (Str.ofString "0") d) = some (v : Int) ∧ (Str.ofString "1" ++ repS (Str.ofString "0") d).length ≤ 640 := by
  have e1 : tl (Str.ofString "1") = [49] := by decide +kernel
  have e2 := repS_one (x := Str.ofString "0") (c := 48) (by decide +kernel) d
  have e : tl (Str.ofString "1" ++ repS (Str.ofString "0") d) = 49 :: List.replicate d 48 := by rw [tl_append, e1, e2]; rfl
  have hb : bare (49 :: List.replicate d 48) = 49 :: List.replicate d 48 := if_neg (by simp)
  have hg : digs (49 :: List.replicate d 48) = true := by
    unfold digs
    rw [List.all_cons, List.all_replicate]
    simp
  have hl : (Str.ofString "1" ++ repS (Str.ofString "0") d).length = d + 1 := by rw [len_tl, e]; simp
  have hn := numL_back d (49 :: List.replicate d 48) (by simp) hg (fun z => by simp at z)
  have hp := numL_pow (digitsVal (49 :: List.replicate d 48))
  rw [hn] at hp
  refine ⟨digitsVal (49 :: List.replicate d 48), Nat.lt_of_lt_of_le hp (ten_up (by simp; omega)), ?_, by omega⟩
  rw [int_valL (by rw [e, hb]; simp) (by rw [e, hb]; exact hg) (by omega), e]
  rfl
theorem great_ok {k : Nat} {f : D} {P : D → D → Prop} {X : XP} (hf : FeedOk k f) (kb : k < 1073741700) (q : ∀ i f', i.natAbs < 10 ^ 450 → FeedOk (k + 8) f' → P (.int i) f') : F__law_great f [] P X := by
  have sz : (1000000 : Nat) < sizeLine := by decide
  have kd := @draw_ok
  have kn := @number_ok
  unfold F__law_great B__law_great
  generalize F__law_draw = F1 at kd ⊢
  generalize F__law_number = F2 at kn ⊢
  repeat (first | fail "step")
  refine kd hf (by decide) (by decide) (by omega) fun d1 f1 a1 b1 hf1 => ?_
  repeat (first | fail "step")
  by_cases c1 : d1 > 0
  · rw [decide_eq_true c1]
    repeat (first | fail "step")
    refine kn hf1 (by omega) fun i f2 i0 i1 hf2 => ?_
    repeat (first | fail "step")
    refine q _ _ ?_ (hf2.up (by omega))
    have h1 : 10 ^ 30 ≤ 10 ^ 450 := ten_up (by decide)
    have h2 : i.natAbs < 10 ^ 30 := by omega
    exact Nat.lt_of_lt_of_le h2 h1
  rw [decide_eq_false c1]
  repeat (first | fail "step")
  refine kd hf1 (by decide) (by decide) (by omega) fun d2 f2 a2 b2 hf2 => ?_
  obtain ⟨d, rfl⟩ := Int.eq_ofNat_of_zero_le a2
  repeat (first | fail "step")
  have z0 : (Str.ofString "0").length = 1 := by decide +kernel
  have z1 : (Str.ofString "1").length = 1 := by decide +kernel
  have lr := repS_len (Str.ofString "0") d
  rw [z0] at lr
  refine ⟨⟨by omega, by omega, by omega, by rw [z0]; omega⟩, ?_⟩
  rw [Int.toNat_natCast]
  repeat (first | fail "step")
  obtain ⟨v, v1, v2, v3⟩ := ones_zeros d (by omega)
  have hi : ∀ {P : D → Prop}, P (.int v) → fIntA [.str (Str.ofString "1" ++ repS (Str.ofString "0") d)] P := fun {P} hP => by
    show (match intText? (Str.ofString "1" ++ repS (Str.ofString "0") d) with
      | some n => (Str.ofString "1" ++ repS (Str.ofString "0") d).length ≤ 640 ∧ P (.int n)
      | none => False)
    rw [v2]
    exact ⟨v3, hP⟩
  refine hi ?_
  repeat (first | fail "step")
  refine ⟨⟨by decide, by decide, by decide⟩, ?_⟩
  repeat (first | fail "step")
  rw [show (10 : Int) ^ Int.toNat 6 = 1000000 by decide]
  refine kd hf2 (by decide) (by decide) (by omega) fun d3 f3 a3 b3 hf3 => ?_
  obtain ⟨e, rfl⟩ := Int.eq_ofNat_of_zero_le a3
  have hve := sum_450 v1 (show e < 1000000 by omega)
  repeat (first | fail "step")
  refine kd hf3 (by decide) (by decide) (by omega) fun d4 f4 a4 b4 hf4 => ?_
  repeat (first | fail "step")
  refine at_mem a4 (by simp only [List.length_cons, List.length_nil]; omega) fun d hd => ?_
  simp only [List.mem_cons, List.not_mem_nil, or_false] at hd
  rcases hd with rfl | rfl
  · refine ⟨mul_small' ⟨by decide, by decide⟩, ?_⟩
    repeat (first | fail "step")
    refine q _ _ ?_ (hf4.up (by omega))
    rw [Int.mul_one, ← Int.natCast_add, Int.natAbs_natCast]
    exact hve
  · refine ⟨mul_small' ⟨by decide, by decide⟩, ?_⟩
    repeat (first | fail "step")
    refine q _ _ ?_ (hf4.up (by omega))
    rw [Int.mul_neg, Int.mul_one, Int.natAbs_neg, ← Int.natCast_add, Int.natAbs_natCast]
    exact hve
/-! ### how long a board's text is -/
theorem clS_le (c : List Int) (B : Nat) (h : ∀ i ∈ c, (numZ i).length ≤ B) : (clS c).length ≤ (B + 1) * c.length := by
  rw [← cl_sum]
  induction c with
  | nil => simp
  | cons i c ih =>
    have h1 : (spS i).length = (numZ i).length + 1 := by rw [len_tl, tl_spS]; rfl
    have h2 := h i (by simp)
    have h3 := ih fun j hj => h j (by simp [hj])
    simp only [List.map_cons, List.sum_cons, List.length_cons, h1, Nat.mul_succ]
    omega
theorem hdS_le (s : List Int) (B : Nat) (h : ∀ i ∈ s, (numZ i).length ≤ B) : (hdS s).length ≤ (B + 1) * s.length := by
  rw [len_tl, tl_hdS]
  have h1 := joinL_len 32 (s.map numZ)
  have h2 : ((s.map numZ).map List.length).sum ≤ B * s.length := by
    clear h1
    induction s with
    | nil => simp
    | cons i s ih =>
      have h2 := h i (by simp)
      have h3 := ih fun j hj => h j (by simp [hj])
      simp only [List.map_cons, List.sum_cons, List.length_cons, Nat.mul_succ]
      omega
  rw [List.length_map] at h1
  rw [Nat.succ_mul]
  omega
theorem numZ_32 (i : Int) : (numZ i).count 32 = 0 := List.count_eq_zero.mpr (numZ_free (by decide) (.inl (by decide)))
theorem tx_blanks (s c : List Int) : (tl (txS s c)).count 32 ≤ s.length + c.length := by
  rw [tl_txS, bdL, List.count_append, List.count_cons]
  have h1 := joinL_count (s.map numZ)
  have h2 : ((s.map numZ).map (·.count 32)).sum = 0 := by
    clear h1
    induction s with
    | nil => rfl
    | cons i s ih => simp only [List.map_cons, List.sum_cons, numZ_32, ih]
  have h3 : ((c.map fun i => 32 :: numZ i).flatten).count 32 = c.length := by
    induction c with
    | nil => rfl
    | cons i c ih =>
      rw [List.map_cons, List.flatten_cons, List.count_append, ih, List.count_cons, numZ_32, List.length_cons]
      simp
      omega
  rw [List.length_map] at h1
  rw [h3]
  simp
  omega
theorem tx_so (s c : List Int) : PyData.strOk (txS s c) = true := by
  have hj : ∀ g ys, PyData.strOk g = true → (∀ y ∈ ys, PyData.strOk y = true) → PyData.strOk (Txt.join g ys) = true := fun g ys hg hy => by
    rw [show Txt.join g ys = Str.join g ys from StrLaws.glued_eq_join _ _]
    exact so_join _ hg ys hy
  refine so_app (so_app (hj _ _ (so_of _) fun y hy => ?_) (so_of _)) (hj _ _ (so_of _) fun y hy => ?_)
  · obtain ⟨i, _, rfl⟩ := List.mem_map.mp hy
    exact so_of _
  · obtain ⟨i, _, rfl⟩ := List.mem_map.mp hy
    exact so_app (so_of _) (so_of _)
/-- a board as drawn -/
structure Bd (s c : List Int) : Prop where
  s3 : S3 s
  sl : s.length ≤ 6
  ct : (c.length : Int) = prd s
  cb : ∀ i ∈ c, i.natAbs < 10 ^ 450
  ln : (c.length < 20) ∨ (c.length ≤ 300 ∧ ∀ i ∈ c, i.natAbs < 10 ^ 30)
theorem Bd.tk {s c : List Int} (b : Bd s c) : Tk 10000 400 (txS s c) := by
  refine ⟨?_, ?_, tx_so s c⟩
  · have h1 := hdS_le s 2 fun i hi => numZ_len (k := 1) (by decide) (by have := b.s3 i hi; omega)
    have h2 := b.sl
    have h3 := tx_len s c
    rcases b.ln with h | ⟨h, h'⟩
    · have h4 := clS_le c 451 fun i hi => numZ_len (k := 450) (by decide) (b.cb i hi)
      omega
    · have h4 := clS_le c 31 fun i hi => numZ_len (k := 30) (by decide) (h' i hi)
      omega
  · have h1 := tx_blanks s c
    have h2 := b.sl
    rcases b.ln with h | ⟨h, _⟩ <;> omega
theorem Bd.bt {s c : List Int} (b : Bd s c) : Bt s c where
  sh := ⟨b.sl, fun i hi => by have := b.s3 i hi; omega⟩
  ct := b.ct
  fg := fun i hi => fg_of (k := 450) (by decide) (by decide) (b.cb i hi)
  ln := by have := b.tk.ln; omega
theorem Bd.log {s c : List Int} (b : Bd s c) : ∀ i ∈ c, i.natAbs.log2 < 1920 := fun i hi => log_of (k := 450) (by decide) (b.cb i hi)
theorem isb_ok {s c : List Int} (b : Bd s c) {P : D → Prop} {X : XP} (q : P (.bl true)) : F__law_is_board [ar s c, bd s c] P X := by
  have g := b.bt
  have k1 := @rep_ti s g.sl g.ss
  have k2 := @rep_li c b.log g.cs
  unfold F__law_is_board B__law_is_board
  generalize fRepr = G1 at k1 k2 ⊢
  repeat (first | fail "step")
  refine k1 ?_
  repeat (first | fail "step")
  refine k1 ?_
  repeat (first | fail "step")
  refine k2 ?_
  repeat (first | fail "step")
  refine k2 ?_
  repeat (first | fail "step")
  exact q
/-! ### a thing read, or refused -/
structure Ck (d : D) (z : Str) : Prop where
  so : PyData.strOk z = true
  rp : ∀ P : D → Prop, P (.str z) → fReprT [d] P
  wh : (∃ s c, Bt s c ∧ (∀ {P : D → Prop} {X : XP}, P (bd s c) → F__law_read [d] P X) ∧ ∀ {P : D → Prop} {X : XP}, P (.tup [.str "read", .str (rpS s c), .bl true, .bl true]) → F__law_told [d] P X) ∨
    ((∀ {P : D → Prop} {X : XP}, P .non → F__law_read [d] P X) ∧ ∀ {P : D → Prop} {X : XP}, P (.tup [.str "refused", .str z, .bl true]) → F__law_told [d] P X)
theorem ck_str {x : Str} (h : Tk 60000 10000 x) : Ck (.str x) (reprText x) := by
  have hl := h.ln
  have hr : ∀ P : D → Prop, P (.str (reprText x)) → fReprT [.str x] P := fun P => reprS h.so (by omega)
  refine ⟨so_repr h.so, hr, ?_⟩
  cases e : rdL (tl x) with
  | none =>
    refine .inr ⟨fun q => lread_ok (by omega) h.ct (fun s c z => by rw [e] at z; cases z) fun _ => q, fun q => told_no (fun q => read_ok (by omega) h.ct (fun s c z => by rw [e] at z; cases z) fun _ => q) hr q⟩
  | some p =>
    obtain ⟨s, c⟩ := p
    obtain ⟨e1, g⟩ := rdL_inv e
    have ex : txS s c = x := by
      have : tl (txS s c) = tl x := by rw [tl_txS, e1]
      exact str_ext this
    have b : Bt s c := ⟨g, by rw [ex]; omega⟩
    refine .inl ⟨s, c, b, fun q => lread_ok (by omega) h.ct (fun s' c' z => by rw [e] at z; cases z; exact q) (fun z => by rw [e] at z; cases z), fun q => told_read e ex b (by omega) h.ct q⟩
theorem ck_no {d : D} {z : Str} (h : noTx d = true) (so : PyData.strOk z = true) (hr : ∀ P : D → Prop, P (.str z) → fReprT [d] P) : Ck d z :=
  ⟨so, hr, .inr ⟨fun q => lread_no h q, fun q => told_no (fun q => read_no h q) hr q⟩⟩
theorem repr_d {d : D} {p : PyData} (e : pyD d = some p) (h1 : p.showable = true) (h2 : p.depth ≤ 64) (h3 : p.shown.length ≤ 1000) : ∀ P : D → Prop, P (.str p.shown) → fRepr [d] P := fun P q => by
  have sz : (1000000 : Nat) < sizeLine := by decide
  unfold fRepr
  simp only [e]
  exact ⟨⟨h1, h2, by omega⟩, q⟩
def oddL : List D := [.non, .int 5, .bl true, .lst [], .lst [.str "2: 1 2"], .tup [], .dic [], .str "", .str " ", .str ":", .str "1: ", .str ": 1 "]
theorem tk_small {s : String} (h : (Str.ofString s).length ≤ 10) : Tk 60000 10000 (Str.ofString s) := ⟨by omega, by
  have := List.count_le_length (a := 32) (l := tl (Str.ofString s))
  rw [← len_tl] at this
  omega, so_of s⟩
theorem ck_odd {d : D} (h : d ∈ oddL) : ∃ z, Ck d z := by
  unfold oddL at h
  simp only [List.mem_cons, List.not_mem_nil, or_false] at h
  rcases h with rfl | rfl | rfl | rfl | rfl | rfl | rfl | rfl | rfl | rfl | rfl | rfl
  · exact ⟨_, ck_no rfl (by decide +kernel) (repr_d (d := .non) rfl rfl (by decide) (by decide +kernel))⟩
  · exact ⟨_, ck_no rfl (by decide +kernel) (repr_d (d := .int 5) rfl (by decide +kernel) (by decide) (by decide +kernel))⟩
  · exact ⟨_, ck_no rfl (by decide +kernel) (repr_d (d := .bl true) rfl rfl (by decide) (by decide +kernel))⟩
  · exact ⟨_, ck_no rfl (by decide +kernel) (repr_d (d := .lst []) rfl rfl (by decide +kernel) (by decide +kernel))⟩
  · exact ⟨_, ck_no rfl (by decide +kernel) (repr_d (d := .lst [.str "2: 1 2"]) rfl rfl (by decide +kernel) (by decide +kernel))⟩
  · exact ⟨_, ck_no rfl (by decide +kernel) (repr_d (d := .tup []) rfl rfl (by decide +kernel) (by decide +kernel))⟩
  · exact ⟨Str.ofString "{}", ck_no rfl (so_of _) (fun P q => q)⟩
  · exact ⟨_, ck_str (tk_small (by decide +kernel))⟩
  · exact ⟨_, ck_str (tk_small (by decide +kernel))⟩
  · exact ⟨_, ck_str (tk_small (by decide +kernel))⟩
  · exact ⟨_, ck_str (tk_small (by decide +kernel))⟩
  · exact ⟨_, ck_str (tk_small (by decide +kernel))⟩
theorem rp_so (s c : List Int) : PyData.strOk (rpS s c) = true := by
  refine so_app (so_app (so_app (so_app (so_of _) (so_ti fun p hp => ?_)) (so_of _)) (so_tuple fun t ht => ?_)) (so_of _)
  · obtain ⟨i, _, rfl⟩ := List.mem_map.mp hp
    exact .int i
  · obtain ⟨i, _, rfl⟩ := List.mem_map.mp ht
    exact so_of _
theorem ne_ref {a z : Str} {P : D → Prop} (ha : PyData.strOk a = true) (hz : PyData.strOk z = true) (q : P (.bl false)) : oNeA (.tup [.str a, .str z, .bl true]) (.tup [.str a, .str z, .bl true]) P := by
  have e : pyD (.tup [.str a, .str z, .bl true]) = some (.tuple [.str a, .str z, .bool true]) := rfl
  have sh : shD (.tup [.str a, .str z, .bl true]) = true := by
    unfold shD
    rw [e]
    show SeqAt.shaped (.tuple [.str a, .str z, .bool true]) = true
    unfold SeqAt.shaped
    simp [PyData.canLay0, PyData.canLayAll0, PyData.depth, PyData.depthAll, ha, hz]
  refine ⟨⟨sh, sh⟩, ?_⟩
  have e2 : (!eqvD (.tup [.str a, .str z, .bl true]) (.tup [.str a, .str z, .bl true])) = false := by
    unfold eqvD
    rw [e]
    simp [PyData.eqv, PyData.eqvAll]
  rw [e2]
  exact q
theorem ne_read {a z : Str} {P : D → Prop} (ha : PyData.strOk a = true) (hz : PyData.strOk z = true) (q : P (.bl false)) : oNeA (.tup [.str a, .str z, .bl true, .bl true]) (.tup [.str a, .str z, .bl true, .bl true]) P := by
  have e : pyD (.tup [.str a, .str z, .bl true, .bl true]) = some (.tuple [.str a, .str z, .bool true, .bool true]) := rfl
  have sh : shD (.tup [.str a, .str z, .bl true, .bl true]) = true := by
    unfold shD
    rw [e]
    show SeqAt.shaped (.tuple [.str a, .str z, .bool true, .bool true]) = true
    unfold SeqAt.shaped
    simp [PyData.canLay0, PyData.canLayAll0, PyData.depth, PyData.depthAll, ha, hz]
  refine ⟨⟨sh, sh⟩, ?_⟩
  have e2 : (!eqvD (.tup [.str a, .str z, .bl true, .bl true]) (.tup [.str a, .str z, .bl true, .bl true])) = false := by
    unfold eqvD
    rw [e]
    simp [PyData.eqv, PyData.eqvAll]
  rw [e2]
  exact q
end Cr

namespace Cr
open PySem PySem.Builtin PySem.Builtin.Str PyProof.Rows L2 Al TL NumText
open Lean in
local macro_rules
  | `(tactic| fail $s:str) => match s.getString with
    | "side" => `(tactic| first | assumption | exact trivial | exact rfl | omega | (simp only [List.length_map, List.length_cons, List.length_nil, List.length_append, List.length_replicate, List.length_range, List.length_take, List.length_drop, List.length_reverse, List.length_set]; omega) | decide | (simp only [List.length_map, List.length_cons, List.length_nil, List.length_append, List.length_replicate, List.length_range]; decide) | exact mul_small (by omega) | exact mul_small' (by omega))
    | "one" => `(tactic| first | fail "one0" | fail "one1" | fail "one2" | fail "one3" | fail "one4" | fail "one5" | fail "one6" | fail "one7" | fail "one8" | fail "one9" | fail "one10" | fail "one11" | fail "one12" | fail "one13" | fail "one14" | fail "one15" | fail "one16")
    | "one0" => `(tactic| first | (with_reducible apply Al.goP) | (with_reducible apply Al.goO) | (with_reducible apply Al.goJ) | (with_reducible apply Al.goSeq) | (with_reducible apply Al.stSet) | (with_reducible apply Al.stExpr) | (with_reducible apply Al.stNext) | (with_reducible apply Al.stAsg))
    | "one1" => `(tactic| first | (with_reducible apply Al.goIf) | (with_reducible apply Al.goRet) | (with_reducible apply Al.goRetN) | (with_reducible apply Al.goFor) | (with_reducible apply Al.goFor0) | (with_reducible apply Al.goAug) | (with_reducible apply Al.goParO) | (with_reducible apply Al.stPar))
    | "one2" => `(tactic| first | (with_reducible apply Al.goPar3) | (with_reducible apply Al.goIxS) | (with_reducible apply Al.goBrk) | (with_reducible apply Al.goCnt) | (with_reducible apply Al.stO) | (with_reducible apply Al.stC) | (with_reducible apply Al.stNil) | (with_reducible apply Al.stCons))
    | "one3" => `(tactic| first | (with_reducible apply Al.stW0) | (with_reducible apply Al.stW1) | (with_reducible apply Al.stW2) | (with_reducible apply Al.stW3) | (with_reducible apply Al.stW4) | (with_reducible apply Al.stW5) | (with_reducible apply Al.stW6) | (with_reducible apply Al.stTup))
    | "one4" => `(tactic| first | (with_reducible apply Al.stLst) | (with_reducible apply Al.stF) | (with_reducible apply Al.stCall) | (with_reducible apply Al.stCallD) | (with_reducible apply Al.stU) | (with_reducible apply Al.stSl) | (with_reducible apply Al.stpN) | (with_reducible apply Al.stpS))
    | "one5" => `(tactic| first | (with_reducible apply Al.onInt_i) | (with_reducible apply Al.onBl_i) | (with_reducible apply Al.onLst_i) | (with_reducible apply Al.onTup_i) | (with_reducible apply Al.onStr_i) | (with_reducible apply Al.onInt1_i) | (with_reducible apply Al.on2_i) | (with_reducible apply Al.on3_i))
    | "one6" => `(tactic| first | (with_reducible apply Al.onIns_i) | (with_reducible apply Al.onNon_i) | (with_reducible apply Al.stB) | (with_reducible apply Al.stTr) | (with_reducible apply Al.stTOr) | (with_reducible apply Al.stTAnd) | (with_reducible apply Al.stTNot) | (with_reducible apply Al.stAnd))
    | "one7" => `(tactic| first | (with_reducible apply Al.stOr) | (with_reducible apply Al.stNot) | (with_reducible apply Al.stIfE) | (with_reducible apply Al.stIs) | (with_reducible apply Al.stM1) | (with_reducible apply Al.stiL) | (with_reducible apply Al.stiT) | (with_reducible apply Al.goiR1))
    | "one8" => `(tactic| first | (with_reducible apply Al.goiS) | (with_reducible apply Al.goFld) | (with_reducible apply Al.goFldO) | (with_reducible apply Al.goCh) | (with_reducible apply Al.goIxO) | (with_reducible apply Al.goApp) | (with_reducible apply Al.goExt) | (with_reducible apply Al.goLenO))
    | "one9" => `(tactic| first | (with_reducible apply Al.goTupO) | (with_reducible apply Al.goRev) | (with_reducible apply Al.goEmpO) | (with_reducible apply Al.goMeth) | (with_reducible apply Al.goMake) | (with_reducible apply Al.goTy) | (with_reducible apply Al.goNm) | (with_reducible apply Al.goV))
    | "one10" => `(tactic| first | (with_reducible apply Al.goCallJ) | (with_reducible apply Al.if_t) | (with_reducible apply Al.if_f) | (with_reducible apply Al.if_tn) | (with_reducible apply Al.if_fn) | (with_reducible apply Al.if_T) | (with_reducible apply Al.opI) | (with_reducible apply Al.opAddI))
    | "one11" => `(tactic| first | (with_reducible apply Al.opEqI) | (with_reducible apply Al.opEqS) | (with_reducible apply Al.opEqE) | (with_reducible apply Al.opNeI) | (with_reducible apply Al.opNeS) | (with_reducible apply Al.opNeE) | (with_reducible apply Al.opEqT) | (with_reducible apply Al.opNeT))
    | "one12" => `(tactic| first | (with_reducible apply Al.opNeg) | (with_reducible apply Al.opIxL) | (with_reducible apply Al.opIxT) | (with_reducible apply Al.opSlT) | (with_reducible apply Al.opSlL) | (with_reducible apply Al.opLenL) | (with_reducible apply Al.opLenT) | (with_reducible apply Al.opLenC))
    | "one13" => `(tactic| first | (with_reducible apply Al.opStrS) | (with_reducible apply Al.opTupL) | (with_reducible apply Al.opTupT) | (with_reducible apply Al.opLstT) | (with_reducible apply Al.opLstL) | (with_reducible apply Al.opEqN) | (with_reducible apply Al.opIsN_i) | (with_reducible apply Al.opIsN_s))
    | "one14" => `(tactic| first | (with_reducible apply Al.opIsN_t) | (with_reducible apply Al.opIsN_l) | (with_reducible apply Al.opNotN_i) | (with_reducible apply Al.opNotN_n) | (with_reducible apply Al.opMax) | (with_reducible apply Al.opMin) | (with_reducible apply Al.opAbs) | (with_reducible apply Al.opIntI))
    | "one15" => `(tactic| first | (with_reducible apply Al.opIntB) | (with_reducible apply Al.opRevL) | (with_reducible apply Al.opRevT) | (with_reducible apply Al.ifNN) | (with_reducible apply Al.goDisp) | (with_reducible apply Al.goDgo0) | (with_reducible apply Al.goDgo) | (with_reducible apply Al.at0c))
    | "one16" => `(tactic| first | (with_reducible apply Al.at0m) | (with_reducible apply Al.at1c) | (with_reducible apply Al.at2c) | (with_reducible apply Al.at3c))
    | "rfl" => `(tactic| first | fail "rfl0" | fail "rfl1")
    | "rfl0" => `(tactic| first | ((with_reducible apply Al.stW); exact rfl) | ((with_reducible apply Al.stV); exact rfl) | ((with_reducible apply Al.stM); exact rfl) | ((with_reducible apply Al.goWL); exact rfl) | ((with_reducible apply Al.goWD); exact rfl) | ((with_reducible apply Al.goAt0); exact rfl) | ((with_reducible apply Al.goAtj); exact rfl) | ((with_reducible apply Al.onSome_i); exact rfl))
    | "rfl1" => `(tactic| first | ((with_reducible apply Al.goTp); exact rfl) | ((with_reducible apply Al.goOwn); exact rfl) | ((with_reducible apply Al.goWJ); exact rfl) | ((with_reducible apply Al.stCallO); exact rfl))
    | "conj" => `(tactic| first | fail "conj0" | fail "conj1")
    | "conj0" => `(tactic| first | (with_reducible apply Al.opIC) | (with_reducible apply Al.opAddS) | (with_reducible apply Al.opAddT) | (with_reducible apply Al.opAddL) | (with_reducible apply Al.opMulI) | (with_reducible apply Al.opSlS) | (with_reducible apply Al.opLenS) | (with_reducible apply Al.opStrI))
    | "conj1" => `(tactic| first | ((with_reducible refine And.intro ?_ ?_); fail "side") | ((with_reducible apply Al.goStL); fail "side") | ((with_reducible apply Al.goStT); fail "side"))
    | "ifs" => `(tactic| first | ((with_reducible apply Al.ifT); fail "side") | ((with_reducible apply Al.ifF); fail "side") | ((with_reducible apply Al.ifTn); fail "side") | ((with_reducible apply Al.ifFn); fail "side") | ((with_reducible apply Al.ifT'); fail "side") | ((with_reducible apply Al.ifF'); fail "side") | ((with_reducible apply Al.ifTb); exact rfl) | ((with_reducible apply Al.ifFb); exact rfl))
    | "norm" => `(tactic| simp only [List.set_cons_zero, List.set_cons_succ, Al.setAll_c, Al.setAll_0, Int.toNat_natCast, Al.cut1c, Al.cut1m, Al.cutAll, List.cons_append, List.nil_append])
    | "step" => `(tactic| first | fail "one" | fail "rfl" | fail "norm" | fail "conj" | fail "ifs")
    | _ => Macro.throwUnsupported

theorem prd_fold : ∀ (s : List Int) (a : Int), s.foldl (· * ·) a = a * prd s
  | [], a => by simp [prd]
  | x :: s, a => by
    have e : prd (x :: s) = 1 * x * prd s := prd_fold s (1 * x)
    rw [List.foldl_cons, prd_fold s (a * x), e]
    simp [Int.mul_assoc]
theorem prd_cons (x : Int) (s : List Int) : prd (x :: s) = x * prd s := by
  show (x :: s).foldl (· * ·) 1 = _
  rw [List.foldl_cons, prd_fold]
  simp
theorem prd3 : ∀ {s : List Int}, S3 s → 0 ≤ prd s ∧ prd s ≤ 3 ^ s.length
  | [], _ => by decide
  | n :: s, h => by
    obtain ⟨n0, n1⟩ := h n (by simp)
    obtain ⟨p0, p1⟩ := prd3 (s := s) fun y hy => h y (by simp [hy])
    rw [prd_cons, List.length_cons, Int.pow_succ, Int.mul_comm _ 3]
    exact ⟨Int.mul_nonneg n0 p0, Int.mul_le_mul n1 p1 p0 (by decide)⟩
theorem ifJ {c : Prop} [Decidable c] {s t : AS} {nx : Ev → Prop} {rt : D → Ev → Prop} {bk ct : Ev → Prop} {ex : XP} {ρ : Ev} (I : Ev → Prop) (h1 : c → ∀ Kn : Ev → Prop, (∀ ρ', I ρ' → Kn ρ') → s ⟨Kn, rt, bk, ct, ex⟩ ρ) (h2 : ¬c → ∀ Kn : Ev → Prop, (∀ ρ', I ρ' → Kn ρ') → t ⟨Kn, rt, bk, ct, ex⟩ ρ) (h : ∀ ρ', I ρ' → nx ρ') :
    if decide c = true then s ⟨nx, rt, bk, ct, ex⟩ ρ else t ⟨nx, rt, bk, ct, ex⟩ ρ := by
  by_cases hc : c
  · rw [decide_eq_true hc, if_pos rfl]
    exact h1 hc nx h
  · rw [decide_eq_false hc, if_neg (by decide)]
    exact h2 hc nx h
theorem eqI_ok {s c s' c' : List Int} {neg : Bool} {P : D → Prop} (q : P (.bl (if neg then !decide (s = s' ∧ c = c') else decide (s = s' ∧ c = c')))) : oEqI 0 F_Array___eq__ neg (ar s c) (ar s' c') P :=
  ⟨⟨rfl, rfl⟩, eqm_ok ⟨_, rfl, q⟩⟩
theorem ifE {c : Prop} [Decidable c] {a b : AE} {ρ : Ev} {P : D → Ev → Prop} {X : XP} (I : D → Prop) (h1 : c → ∀ Q : D → Ev → Prop, (∀ d, I d → Q d ρ) → a ρ Q X) (h2 : ¬c → ∀ Q : D → Ev → Prop, (∀ d, I d → Q d ρ) → b ρ Q X) (h : ∀ d, I d → P d ρ) : if decide c = true then a ρ P X else b ρ P X := by
  by_cases hc : c
  · rw [decide_eq_true hc, if_pos rfl]
    exact h1 hc P h
  · rw [decide_eq_false hc, if_neg (by decide)]
    exact h2 hc P h
def lB : Nat → Nat
  | 0 => 10000
  | n + 1 => 2 * lB n + 4010
def lC : Nat → Nat
  | 0 => 400
  | n + 1 => 2 * lC n + 10
theorem lB_ok {j : Nat} (h : j < 2) : lB j ≤ 40000 ∧ lC j ≤ 4000 := by
  have : j = 0 ∨ j = 1 := by omega
  rcases this with rfl | rfl <;> decide
theorem lB_end {j : Nat} (h : j ≤ 2) : lB j ≤ 60000 ∧ lC j ≤ 10000 := by
  have : j = 0 ∨ j = 1 ∨ j = 2 := by omega
  rcases this with rfl | rfl | rfl <;> decide
theorem prd_take3 {s : List Int} (h : S3 s) : prd (s.take 3) ≤ 27 := by
  have h1 := (prd3 (s := s.take 3) fun y hy => h y (List.mem_of_mem_take hy)).2
  have : (s.take 3).length = 0 ∨ (s.take 3).length = 1 ∨ (s.take 3).length = 2 ∨ (s.take 3).length = 3 := by rw [List.length_take]; omega
  rcases this with e | e | e | e <;> rw [e] at h1 <;> omega
theorem s3_sz {s : List Int} (h : S3 s) : Sz s := fun y hy => by have := h y hy; omega
theorem sh_len {s c : List Int} (g : Bt s c) : (shT s).length ≤ 300003 := by
  have h3 := g.ss
  have h4 := tupleText_len_le (PyData.shownAll (s.map PyData.int))
  rw [shown_nums, List.length_map] at h4
  have h5 : shT s = tupleText (s.map numS) := by unfold shT; rw [PyData.shown, shown_nums]
  rw [← h5] at h4
  omega
theorem notN_t {ds : List D} {P : D → Prop} (q : P (.bl true)) : oNotN (.tup ds) .non P := q
theorem neB {a b : Bool} {P : D → Prop} (q : P (.bl (!decide (a = b)))) : oNeA (.bl a) (.bl b) P := q
theorem law_plain (ns : List Int) (h : ns.length ≤ 63) : F_law [.scr ns] (fun d => d = .bl true) NX := by
  have sz2 : (1000000 : Nat) < sizeLine := by decide
  have sz : (100000 : Nat) < sizeLine := by decide
  unfold F_law B_law
  have kf := @feed_ok
  have kd := @draw_ok
  have ko := @of_ok
  have kb := @base_ok
  have kc := @lcount_ok
  have kn := @number_ok
  have kg := @great_ok
  have ki := @init_ok
  have kt := @atext_ok
  have krd := @read_ok
  have kib := @isb_ok
  have ks : ∀ {s c : List Int}, Bt s c → ∀ P : D → Prop, P (.str (txS s c)) → on1 0 F_Array___str__ gStr [ar s c] P := fun g P q => ⟨rfl, str_ok g ⟨_, rfl, q⟩⟩
  have ke : ∀ {s c s' c' : List Int} {P : D → Prop}, P (.bl (decide (s = s' ∧ c = c'))) → oEqI 0 F_Array___eq__ false (ar s c) (ar s' c') P := fun q => eqI_ok (neg := false) q
  have ksp := @spoilt_ok
  have ck := @ck_str
  have co := @ck_odd
  have mk : ∀ {d : D} {z : Str} (C : Ck d z), (∃ s c, Bt s c ∧ (∀ {P : D → Prop} {X : XP}, P (bd s c) → F__law_read [d] P X) ∧ ∀ {P : D → Prop} {X : XP}, P (.tup [.str "read", .str (rpS s c), .bl true, .bl true]) → F__law_told [d] P X) ∨
    ((∀ {P : D → Prop} {X : XP}, P .non → F__law_read [d] P X) ∧ ∀ {P : D → Prop} {X : XP}, P (.tup [.str "refused", .str z, .bl true]) → F__law_told [d] P X) := fun C => C.wh
  generalize F__law_feed = F1 at kf ⊢
  generalize F__law_draw = F2 at kd ⊢
  generalize F__law_of = F3 at ko ⊢
  generalize F__law_base = F4 at kb ⊢
  generalize F__law_count = F5 at kc ⊢
  generalize F__law_number = F6 at kn ⊢
  generalize F__law_great = F7 at kg ⊢
  generalize F_Array___init__ = F8 at ki ⊢
  generalize F__law_array_text = F9 at kt ⊢
  generalize F_read_array = F10 at krd ⊢
  generalize F__law_is_board = F11 at kib ⊢
  generalize on1 0 F_Array___str__ gStr = G1 at ks ⊢
  generalize oEqI 0 F_Array___eq__ false = O1 at ke ⊢
  generalize F__law_spoilt = F12 at ksp ⊢
  generalize F__law_read = F13 at mk ⊢
  generalize F__law_told = F14 at mk ⊢
  repeat (first | fail "step")
  refine kf fun f hf => ?_
  repeat (first | fail "step")
  refine ki (s := []) (c := [7]) (fun y hy => absurd hy (by simp)) (by decide) (by decide) (.inl rfl) ?_
  repeat (first | fail "step")
  refine goForE _ _ (fun m ρ => ∃ (g : D) (s0 c0 : List Int) (w4 w5 w6 w7 w8 w9 w10 w11 w12 w13 w14 w15 : Option D), ρ = [some (.scr ns), some g, some (.tup [bd s0 c0, ar s0 c0]), some (.lst oddL), w4, w5, w6, w7, w8, w9, w10, w11, w12, w13, w14, w15] ∧ FeedOk (5000 * m) g) ⟨f, [], [7], _, _, _, _, _, _, _, _, _, _, _, _, rfl, hf⟩ ?_ ?_
  · rintro m x ρ Kn e1 hm _ ⟨g, s0, c0, w4, w5, w6, w7, w8, w9, w10, w11, w12, w13, w14, w15, rfl, hg⟩ hn
    rw [List.length_range] at hm
    have hm12 : m < 15 := by omega
    repeat (first | fail "step")
    refine kd hg (by decide) (by decide) (by omega) fun d1 f1 a1 b1 hf1 => ?_
    repeat (first | fail "step")
    refine at_mem a1 (by simp only [List.length_cons, List.length_nil]; omega) fun d hd => ?_
    obtain ⟨a, rfl, ha⟩ : ∃ a : Nat, d = .int (a : Int) ∧ a ≤ 6 := by
      simp only [List.mem_cons, List.not_mem_nil, or_false] at hd
      rcases hd with rfl | rfl | rfl
      · exact ⟨1, rfl, by decide⟩
      · exact ⟨3, rfl, by decide⟩
      · exact ⟨6, rfl, by decide⟩
    repeat (first | fail "step")
    refine kb hf1 ha (by omega) fun r0 f2 hr0 lr0 hf2 => ?_
    repeat (first | fail "step")
    refine kc (s3_sz hr0) (by omega) ?_
    repeat (first | fail "step")
    refine ifE (fun d => ∃ r, d = ti r ∧ S3 r ∧ r.length ≤ 6 ∧ prd r ≤ 300) (fun c1 Q hQ => ?_) (fun c1 Q hQ => ?_) ?_
    · repeat (first | fail "step")
      exact hQ _ ⟨r0, rfl, hr0, by omega, c1⟩
    · repeat (first | fail "step")
      have e3 : Al.cutD (r0.map D.int) none (some 3) = (r0.take 3).map D.int := by rw [show (some (3 : Int)) = some ((3 : Nat) : Int) from rfl, cutD_head, List.map_take]
      rw [e3]
      exact hQ _ ⟨r0.take 3, rfl, fun y hy => hr0 y (List.mem_of_mem_take hy), by rw [List.length_take]; omega, by have := prd_take3 hr0; omega⟩
    rintro d ⟨s, rfl, hs, ls, hp⟩
    have p0 := (prd3 hs).1
    obtain ⟨N, eN⟩ := Int.eq_ofNat_of_zero_le p0
    repeat (first | fail "step")
    refine goLcD (fun k : Nat => D.int (k : Nat)) D.int (fun l => l.length = N) (fun i => -(10 ^ 30) < i ∧ i < 10 ^ 30) FeedOk (5000 * m + 40) 4 (j := 1) (by decide) (fun Q hQ => ?_) (fun l m' x' g' hL hx' hm' hg' Q hQ => ?_) fun l c g' hL hc hY hg' => ?_
    · repeat (first | fail "step")
      refine kc (s3_sz hs) ls ?_
      rw [eN]
      repeat (first | fail "step")
      exact hQ (List.range N) f2 (hf2.up (by omega)) (by rw [List.length_range]; omega) (by rw [List.length_range])
    · repeat (first | fail "step")
      refine kn hg' (by omega) fun i f4 i0 i1 hf4 => ?_
      repeat (first | fail "step")
      exact hQ _ _ ⟨i0, i1⟩ (hf4.up (by omega))
    rw [hL] at hc hg'
    repeat (first | fail "step")
    refine ifJ (fun ρ => ∃ (c : List Int) (g : D) (w14 w15 : Option D), ρ = [some (.scr ns), some g, some (.tup [bd s0 c0, ar s0 c0]), some (.lst oddL), some (.int x), some (ti s), some (bd s c), w7, w8, w9, w10, w11, w12, w13, w14, w15] ∧ Bd s c ∧ FeedOk (5000 * m + 2000) g) (fun c6 Kn' hn' => ?_) (fun c6 Kn' hn' => ?_) ?_
    · repeat (first | fail "step")
      rw [List.length_map] at c6
      refine goLcD D.int D.int (fun l => l = c) (fun i => i.natAbs < 10 ^ 450) FeedOk (5000 * m + 1300) 8 (j := 1) (by decide) (fun Q hQ => ?_) (fun l m' x' g' hL hx' hm' hg' Q hQ => ?_) fun l c' g'' hL hc' hY' hg'' => ?_
      · repeat (first | fail "step")
        exact hQ c g' (hg'.up (by omega)) (by omega) rfl
      · repeat (first | fail "step")
        refine kg hg' (by subst hL; omega) fun i f4 i0 hf4 => ?_
        repeat (first | fail "step")
        exact hQ _ _ i0 (hf4.up (by omega))
      subst hL
      repeat (first | fail "step")
      exact hn' _ ⟨c', g'', _, _, rfl, ⟨hs, ls, by omega, hY', .inl (by omega)⟩, hg''.up (by omega)⟩
    · rw [List.length_map] at c6
      have h30 : ∀ i ∈ c, i.natAbs < 10 ^ 30 := fun i hi => by have := hY i hi; omega
      repeat (first | fail "step")
      exact hn' _ ⟨c, g', _, _, rfl, ⟨hs, ls, by omega, fun i hi => Nat.lt_of_lt_of_le (h30 i hi) (ten_up (by decide)), .inr ⟨by omega, h30⟩⟩, hg'.up (by omega)⟩
    clear hY hg' hL hc
    rintro ρ ⟨c, g, w14, w15, rfl, B, hg⟩
    have bt := B.bt
    have tk := B.tk
    repeat (first | fail "step")
    refine kt bt (fun i hi => Nat.lt_of_lt_of_le (B.cb i hi) (ten_up (by decide))) ?_
    repeat (first | fail "step")
    have rdx : rdL (tl (txS s c)) = some (s, c) := by rw [tl_txS]; exact rdL_bd bt.toGb
    refine krd (by have := tk.ln; omega) (by have := tk.ct; omega) (fun s' c' z => ?_) (fun z => by rw [rdx] at z; cases z)
    rw [rdx] at z
    cases z
    repeat (first | fail "step")
    refine ks bt _ ?_
    repeat (first | fail "step")
    refine kib B ?_
    repeat (first | fail "step")
    refine eq_pair ?_
    repeat (first | fail "step")
    refine ke ?_
    refine neB ?_
    rw [decide_eq_true rfl]
    repeat (first | fail "step")
    refine kd hg (by decide) (by decide) (by omega) fun d2 f5 a2 b2 hf5 => ?_
    obtain ⟨d, rfl⟩ := Int.eq_ofNat_of_zero_le a2
    repeat (first | fail "step")
    refine goForE _ _ (fun j ρ => ∃ (g : D) (y : Str) (w9 : Option D), ρ = [some (.scr ns), some g, some (.tup [bd s c, ar s c]), some (.lst oddL), some (.int x), some (ti s), some (bd s c), some (.str y), some (ar s c), w9, w10, w11, w12, w13, w14, w15] ∧ Tk (lB j) (lC j) y ∧ FeedOk (5000 * m + 2100 + 10 * j) g) ⟨f5, _, _, rfl, tk, hf5.up (by omega)⟩ ?_ ?_
    · rintro j i ρ Kn2 _ hj _ ⟨g, y, w9, rfl, hy, hg⟩ hn2
      rw [List.length_range] at hj
      obtain ⟨l1, l2⟩ := lB_ok (show j < 2 by omega)
      repeat (first | fail "step")
      refine ksp hg hy l1 l2 (by omega) fun y' f' hy' hf' => ?_
      repeat (first | fail "step")
      exact hn2 _ ⟨f', y', _, rfl, hy', hf'.up (by omega)⟩
    rintro ρ ⟨g, y, w9, rfl, hy, hg⟩
    rw [List.length_range] at hy hg
    obtain ⟨l1, l2⟩ := lB_end (show d ≤ 2 by omega)
    have cy := ck (hy.up (by omega) (by omega))
    repeat (first | fail "step")
    refine ko hg (by decide) (by decide) (by omega) fun d3 hd3 f6 hf6 => ?_
    obtain ⟨z3, c3⟩ := co hd3
    repeat (first | fail "step")
    have hall : ∀ d ∈ [D.str y, d3], ∃ z, Ck d z := fun d hd => by
      simp only [List.mem_cons, List.not_mem_nil, or_false] at hd
      rcases hd with rfl | rfl
      · exact ⟨_, cy⟩
      · exact ⟨_, c3⟩
    refine goForL _ (fun _ ρ => ∃ (w10 w11 w12 : Option D), ρ = [some (.scr ns), some f6, some (.tup [bd s c, ar s c]), some (.lst oddL), some (.int x), some (ti s), some (bd s c), some (.str y), some (ar s c), w9, w10, w11, w12, w13, w14, w15]) ⟨_, _, _, rfl⟩ ?_ ?_
    · rintro j dx ρ Kn3 _ _ hx ⟨w10, w11, w12, rfl⟩ hn3
      obtain ⟨z, C⟩ := hall dx hx
      rcases mk C with ⟨s1, c1, b1, r1, t1⟩ | ⟨r1, t1⟩
      · have k1 := @rep_ti s1 b1.sl b1.ss
        have k2 := @brepr_ok s1 c1 b1
        have k3 := C.rp
        have e1 := sh_len b1
        have e2 := tt_len c1
        have e3 := b1.cs
        have n1 : (Str.ofString "Array(").length = 6 := by decide +kernel
        have n2 : (Str.ofString ", ").length = 2 := by decide +kernel
        have n3 : (Str.ofString ")").length = 1 := by decide +kernel
        have m1 := len_app (Str.ofString "Array(") (shT s1)
        have m2 := len_app (Str.ofString "Array(" ++ shT s1) (Str.ofString ", ")
        have m3 := len_app (Str.ofString "Array(" ++ shT s1 ++ Str.ofString ", ") (ttS c1)
        generalize fReprT = G2 at k3 ⊢
        generalize fReprTB = G4 at k2 ⊢
        generalize fRepr = G3 at k1 ⊢
        repeat (first | fail "step")
        refine r1 ?_
        repeat (first | fail "step")
        refine k3 _ ?_
        repeat (first | fail "step")
        refine notN_t ?_
        repeat (first | fail "step")
        refine k1 ?_
        repeat (first | fail "step")
        refine k2 ?_
        repeat (first | fail "step")
        refine t1 ?_
        repeat (first | fail "step")
        refine ne_read (so_of _) (rp_so s1 c1) ?_
        repeat (first | fail "step")
        exact hn3 _ ⟨_, _, _, rfl⟩
      · have k3 := C.rp
        generalize fReprT = G2 at k3 ⊢
        repeat (first | fail "step")
        refine r1 ?_
        repeat (first | fail "step")
        refine k3 _ ?_
        repeat (first | fail "step")
        refine t1 ?_
        repeat (first | fail "step")
        refine ne_ref (so_of _) C.so ?_
        repeat (first | fail "step")
        exact hn3 _ ⟨_, _, _, rfl⟩
    rintro ρ ⟨w10, w11, w12, rfl⟩
    exact hn _ ⟨f6, s, c, _, _, _, _, _, _, _, _, _, _, _, _, rfl, hf6.up (by omega)⟩
  · rintro ρ ⟨g, s0, c0, w4, w5, w6, w7, w8, w9, w10, w11, w12, w13, w14, w15, rfl, hg⟩
    have g1 : Gb [2, 1] [4, -5] := ⟨⟨by decide, fun y hy => by simp only [List.mem_cons, List.not_mem_nil, or_false] at hy; rcases hy with rfl | rfl <;> decide⟩, by decide, fun y hy => by
      simp only [List.mem_cons, List.not_mem_nil, or_false] at hy
      rcases hy with rfl | rfl <;> exact fg_of (k := 1) (by decide) (by decide) (by decide)⟩
    have ex : txS [2, 1] [4, -5] = Str.ofString "2 1: 4 -5" := by decide +kernel
    have b1 : Bt [2, 1] [4, -5] := ⟨g1, by rw [ex]; decide +kernel⟩
    have rd0 : rdL (tl (Str.ofString "0 3:")) = some ([0, 3], []) := by decide +kernel
    have rd1 : rdL (tl (txS [2, 1] [4, -5])) = some ([2, 1], [4, -5]) := by rw [tl_txS]; exact rdL_bd g1
    repeat (first | fail "step")
    refine ki (s := [2, 1]) (c := [4, -5]) (fun y hy => g1.sh.2 y hy) (by decide) (by decide) (.inl rfl) ?_
    repeat (first | fail "step")
    refine krd (by decide +kernel) (by decide +kernel) (fun s' c' z => ?_) (fun z => by rw [rd0] at z; cases z)
    rw [rd0] at z
    cases z
    repeat (first | fail "step")
    refine ki (s := [0, 3]) (c := []) (fun y hy => by simp only [List.mem_cons, List.not_mem_nil, or_false] at hy; rcases hy with rfl | rfl <;> decide) (by decide) (by decide) (.inr rfl) ?_
    repeat (first | fail "step")
    refine ke ?_
    rw [decide_eq_true (show ([0, 3] : List Int) = [0, 3] ∧ ([] : List Int) = [] from ⟨rfl, rfl⟩)]
    repeat (first | fail "step")
    refine ks b1 _ ?_
    repeat (first | fail "step")
    refine krd (by have := b1.ln; omega) (by rw [ex]; decide +kernel) (fun s' c' z => ?_) (fun z => by rw [rd1] at z; cases z)
    rw [rd1] at z
    cases z
    repeat (first | fail "step")
    refine ke ?_
    rw [decide_eq_true (show ([2, 1] : List Int) = [2, 1] ∧ ([4, -5] : List Int) = [4, -5] from ⟨rfl, rfl⟩)]
    repeat (first | fail "step")
    refine ks b1 _ ?_
    rw [ex]
    repeat (first | fail "step")
    rfl
end Cr

namespace Cr
open PySem L2 Al
theorem kit_yes {K : PySem.W.Frag} {C : Addr} (h1 : PySem.W.isClsIn K C = true) (h2 : PySem.W.typeIn K (.ref C) = some (.type "type")) : ((PySem.W.clsIn K C).isSome && PySem.W.typeIn K (.ref C) == some (.type "type")) = true := by
  unfold PySem.W.isClsIn at h1
  rw [h1, h2]
  rfl
theorem all_mk {l : PySem.W.OpenLaw} {w : World} {K : PySem.W.Frag} {h : Heap} {mg : Str → Option Value} {fa : Addr} (X : K.In h) (G : h.Ns mainGlobals mg) (hfa : mg "law" = some (.ref fa))
    {f0 : Addr} {od0 an0 : Option Addr} {sl0 : Array (Option Value)} {oc0 kV0 dc0 pm0 cd0 ct0 : Value}
    {f1 : Addr} {od1 an1 : Option Addr} {sl1 : Array (Option Value)} {oc1 kV1 dc1 pm1 cd1 ct1 : Value}
    {f2 : Addr} {od2 an2 : Option Addr} {sl2 : Array (Option Value)} {oc2 kV2 dc2 pm2 cd2 ct2 : Value}
    {f3 : Addr} {od3 an3 : Option Addr} {sl3 : Array (Option Value)} {oc3 kV3 dc3 pm3 cd3 ct3 : Value}
    {f4 : Addr} {od4 an4 : Option Addr} {sl4 : Array (Option Value)} {oc4 kV4 dc4 pm4 cd4 ct4 : Value}
    {f5 : Addr} {od5 an5 : Option Addr} {sl5 : Array (Option Value)} {oc5 kV5 dc5 pm5 cd5 ct5 : Value}
    {f6 : Addr} {od6 an6 : Option Addr} {sl6 : Array (Option Value)} {oc6 kV6 dc6 pm6 cd6 ct6 : Value}
    {f7 : Addr} {od7 an7 : Option Addr} {sl7 : Array (Option Value)} {oc7 kV7 dc7 pm7 cd7 ct7 : Value}
    {f8 : Addr} {od8 an8 : Option Addr} {sl8 : Array (Option Value)} {oc8 kV8 dc8 pm8 cd8 ct8 : Value}
    {f9 : Addr} {od9 an9 : Option Addr} {sl9 : Array (Option Value)} {oc9 kV9 dc9 pm9 cd9 ct9 : Value}
    {f10 : Addr} {od10 an10 : Option Addr} {sl10 : Array (Option Value)} {oc10 kV10 dc10 pm10 cd10 ct10 : Value}
    {f11 : Addr} {od11 an11 : Option Addr} {sl11 : Array (Option Value)} {oc11 kV11 dc11 pm11 cd11 ct11 : Value}
    {f12 : Addr} {od12 an12 : Option Addr} {sl12 : Array (Option Value)} {oc12 kV12 dc12 pm12 cd12 ct12 : Value}
    {f13 : Addr} {od13 an13 : Option Addr} {sl13 : Array (Option Value)} {oc13 kV13 dc13 pm13 cd13 ct13 : Value}
    {f14 : Addr} {od14 an14 : Option Addr} {sl14 : Array (Option Value)} {oc14 kV14 dc14 pm14 cd14 ct14 : Value}
    {f15 : Addr} {od15 an15 : Option Addr} {sl15 : Array (Option Value)} {oc15 kV15 dc15 pm15 cd15 ct15 : Value}
    {f16 : Addr} {od16 an16 : Option Addr} {sl16 : Array (Option Value)} {oc16 kV16 dc16 pm16 cd16 ct16 : Value}
    {f17 : Addr} {od17 an17 : Option Addr} {sl17 : Array (Option Value)} {oc17 kV17 dc17 pm17 cd17 ct17 : Value}
    {f18 : Addr} {od18 an18 : Option Addr} {sl18 : Array (Option Value)} {oc18 kV18 dc18 pm18 cd18 ct18 : Value}
    {f19 : Addr} {od19 an19 : Option Addr} {sl19 : Array (Option Value)} {oc19 kV19 dc19 pm19 cd19 ct19 : Value}
    {f20 : Addr} {od20 an20 : Option Addr} {sl20 : Array (Option Value)} {oc20 kV20 dc20 pm20 cd20 ct20 : Value}
    {C_Array : Addr}
    {f21 : Addr} {od21 an21 : Option Addr} {sl21 : Array (Option Value)} {oc21 kV21 dc21 pm21 cd21 ct21 : Value}
    {f22 : Addr} {od22 an22 : Option Addr} {sl22 : Array (Option Value)} {oc22 kV22 dc22 pm22 cd22 ct22 : Value}
    {f23 : Addr} {od23 an23 : Option Addr} {sl23 : Array (Option Value)} {oc23 kV23 dc23 pm23 cd23 ct23 : Value}
    {f24 : Addr} {od24 an24 : Option Addr} {sl24 : Array (Option Value)} {oc24 kV24 dc24 pm24 cd24 ct24 : Value}
    {C_NoText : Addr}
    {f25 : Addr} {od25 an25 : Option Addr} {sl25 : Array (Option Value)} {oc25 kV25 dc25 pm25 cd25 ct25 : Value}
    {C_NoShape : Addr}
    {C_Miscount : Addr}
    {C_NoTree : Addr}
    {t_MOST_AXES : Tok}
    {t_MOST_SIZE : Tok}
    {t_MOST_FIGURES : Tok}
    {t_FIGURES : Tok}
    (a0 : PySem.W.nsIn K mainGlobals "is_whole" = some (some (.ref f0)))
    (l0 : K.lookup f0 = some ⟨oc0, od0, .func (PySem.W.fnOf "is_whole" "is_whole" (defArgs s_is_whole) (defBody s_is_whole) (defScope s_is_whole) .none kV0 dc0 pm0 an0 cd0 ct0), sl0⟩)
    (c0 : PySem.W.codeIn K cd0 "is_whole" = true)
    (k0 : PySem.W.keepIn K (.ref f0) = true)
    (a1 : PySem.W.nsIn K mainGlobals "is_from" = some (some (.ref f1)))
    (l1 : K.lookup f1 = some ⟨oc1, od1, .func (PySem.W.fnOf "is_from" "is_from" (defArgs s_is_from) (defBody s_is_from) (defScope s_is_from) .none kV1 dc1 pm1 an1 cd1 ct1), sl1⟩)
    (c1 : PySem.W.codeIn K cd1 "is_from" = true)
    (k1 : PySem.W.keepIn K (.ref f1) = true)
    (a2 : PySem.W.nsIn K mainGlobals "whole_in" = some (some (.ref f2)))
    (l2 : K.lookup f2 = some ⟨oc2, od2, .func (PySem.W.fnOf "whole_in" "whole_in" (defArgs s_whole_in) (defBody s_whole_in) (defScope s_whole_in) .none kV2 dc2 pm2 an2 cd2 ct2), sl2⟩)
    (c2 : PySem.W.codeIn K cd2 "whole_in" = true)
    (k2 : PySem.W.keepIn K (.ref f2) = true)
    (a3 : PySem.W.nsIn K mainGlobals "is_shape" = some (some (.ref f3)))
    (l3 : K.lookup f3 = some ⟨oc3, od3, .func (PySem.W.fnOf "is_shape" "is_shape" (defArgs s_is_shape) (defBody s_is_shape) (defScope s_is_shape) .none kV3 dc3 pm3 an3 cd3 ct3), sl3⟩)
    (c3 : PySem.W.codeIn K cd3 "is_shape" = true)
    (k3 : PySem.W.keepIn K (.ref f3) = true)
    (a4 : PySem.W.nsIn K mainGlobals "count" = some (some (.ref f4)))
    (l4 : K.lookup f4 = some ⟨oc4, od4, .func (PySem.W.fnOf "count" "count" (defArgs s_count) (defBody s_count) (defScope s_count) .none kV4 dc4 pm4 an4 cd4 ct4), sl4⟩)
    (c4 : PySem.W.codeIn K cd4 "count" = true)
    (k4 : PySem.W.keepIn K (.ref f4) = true)
    (a5 : PySem.W.nsIn K mainGlobals "shape_in" = some (some (.ref f5)))
    (l5 : K.lookup f5 = some ⟨oc5, od5, .func (PySem.W.fnOf "shape_in" "shape_in" (defArgs s_shape_in) (defBody s_shape_in) (defScope s_shape_in) .none kV5 dc5 pm5 an5 cd5 ct5), sl5⟩)
    (c5 : PySem.W.codeIn K cd5 "shape_in" = true)
    (k5 : PySem.W.keepIn K (.ref f5) = true)
    (a6 : PySem.W.nsIn K mainGlobals "read_array" = some (some (.ref f6)))
    (l6 : K.lookup f6 = some ⟨oc6, od6, .func (PySem.W.fnOf "read_array" "read_array" (defArgs s_read_array) (defBody s_read_array) (defScope s_read_array) .none kV6 dc6 pm6 an6 cd6 ct6), sl6⟩)
    (c6 : PySem.W.codeIn K cd6 "read_array" = true)
    (k6 : PySem.W.keepIn K (.ref f6) = true)
    (a7 : PySem.W.nsIn K mainGlobals "_law_feed" = some (some (.ref f7)))
    (l7 : K.lookup f7 = some ⟨oc7, od7, .func (PySem.W.fnOf "_law_feed" "_law_feed" (defArgs s__law_feed) (defBody s__law_feed) (defScope s__law_feed) .none kV7 dc7 pm7 an7 cd7 ct7), sl7⟩)
    (c7 : PySem.W.codeIn K cd7 "_law_feed" = true)
    (k7 : PySem.W.keepIn K (.ref f7) = true)
    (a8 : PySem.W.nsIn K mainGlobals "_law_draw" = some (some (.ref f8)))
    (l8 : K.lookup f8 = some ⟨oc8, od8, .func (PySem.W.fnOf "_law_draw" "_law_draw" (defArgs s__law_draw) (defBody s__law_draw) (defScope s__law_draw) .none kV8 dc8 pm8 an8 cd8 ct8), sl8⟩)
    (c8 : PySem.W.codeIn K cd8 "_law_draw" = true)
    (k8 : PySem.W.keepIn K (.ref f8) = true)
    (a9 : PySem.W.nsIn K mainGlobals "_law_of" = some (some (.ref f9)))
    (l9 : K.lookup f9 = some ⟨oc9, od9, .func (PySem.W.fnOf "_law_of" "_law_of" (defArgs s__law_of) (defBody s__law_of) (defScope s__law_of) .none kV9 dc9 pm9 an9 cd9 ct9), sl9⟩)
    (c9 : PySem.W.codeIn K cd9 "_law_of" = true)
    (k9 : PySem.W.keepIn K (.ref f9) = true)
    (a10 : PySem.W.nsIn K mainGlobals "_law_count" = some (some (.ref f10)))
    (l10 : K.lookup f10 = some ⟨oc10, od10, .func (PySem.W.fnOf "_law_count" "_law_count" (defArgs s__law_count) (defBody s__law_count) (defScope s__law_count) .none kV10 dc10 pm10 an10 cd10 ct10), sl10⟩)
    (c10 : PySem.W.codeIn K cd10 "_law_count" = true)
    (k10 : PySem.W.keepIn K (.ref f10) = true)
    (a11 : PySem.W.nsIn K mainGlobals "_law_number" = some (some (.ref f11)))
    (l11 : K.lookup f11 = some ⟨oc11, od11, .func (PySem.W.fnOf "_law_number" "_law_number" (defArgs s__law_number) (defBody s__law_number) (defScope s__law_number) .none kV11 dc11 pm11 an11 cd11 ct11), sl11⟩)
    (c11 : PySem.W.codeIn K cd11 "_law_number" = true)
    (k11 : PySem.W.keepIn K (.ref f11) = true)
    (a12 : PySem.W.nsIn K mainGlobals "_law_base" = some (some (.ref f12)))
    (l12 : K.lookup f12 = some ⟨oc12, od12, .func (PySem.W.fnOf "_law_base" "_law_base" (defArgs s__law_base) (defBody s__law_base) (defScope s__law_base) .none kV12 dc12 pm12 an12 cd12 ct12), sl12⟩)
    (c12 : PySem.W.codeIn K cd12 "_law_base" = true)
    (k12 : PySem.W.keepIn K (.ref f12) = true)
    (a13 : PySem.W.nsIn K mainGlobals "_law_array_text" = some (some (.ref f13)))
    (l13 : K.lookup f13 = some ⟨oc13, od13, .func (PySem.W.fnOf "_law_array_text" "_law_array_text" (defArgs s__law_array_text) (defBody s__law_array_text) (defScope s__law_array_text) .none kV13 dc13 pm13 an13 cd13 ct13), sl13⟩)
    (c13 : PySem.W.codeIn K cd13 "_law_array_text" = true)
    (k13 : PySem.W.keepIn K (.ref f13) = true)
    (a14 : PySem.W.nsIn K mainGlobals "_law_is_board" = some (some (.ref f14)))
    (l14 : K.lookup f14 = some ⟨oc14, od14, .func (PySem.W.fnOf "_law_is_board" "_law_is_board" (defArgs s__law_is_board) (defBody s__law_is_board) (defScope s__law_is_board) .none kV14 dc14 pm14 an14 cd14 ct14), sl14⟩)
    (c14 : PySem.W.codeIn K cd14 "_law_is_board" = true)
    (k14 : PySem.W.keepIn K (.ref f14) = true)
    (a15 : PySem.W.nsIn K mainGlobals "_law_great" = some (some (.ref f15)))
    (l15 : K.lookup f15 = some ⟨oc15, od15, .func (PySem.W.fnOf "_law_great" "_law_great" (defArgs s__law_great) (defBody s__law_great) (defScope s__law_great) .none kV15 dc15 pm15 an15 cd15 ct15), sl15⟩)
    (c15 : PySem.W.codeIn K cd15 "_law_great" = true)
    (k15 : PySem.W.keepIn K (.ref f15) = true)
    (a16 : PySem.W.nsIn K mainGlobals "_law_figures" = some (some (.ref f16)))
    (l16 : K.lookup f16 = some ⟨oc16, od16, .func (PySem.W.fnOf "_law_figures" "_law_figures" (defArgs s__law_figures) (defBody s__law_figures) (defScope s__law_figures) .none kV16 dc16 pm16 an16 cd16 ct16), sl16⟩)
    (c16 : PySem.W.codeIn K cd16 "_law_figures" = true)
    (k16 : PySem.W.keepIn K (.ref f16) = true)
    (a17 : PySem.W.nsIn K mainGlobals "_law_read" = some (some (.ref f17)))
    (l17 : K.lookup f17 = some ⟨oc17, od17, .func (PySem.W.fnOf "_law_read" "_law_read" (defArgs s__law_read) (defBody s__law_read) (defScope s__law_read) .none kV17 dc17 pm17 an17 cd17 ct17), sl17⟩)
    (c17 : PySem.W.codeIn K cd17 "_law_read" = true)
    (k17 : PySem.W.keepIn K (.ref f17) = true)
    (a18 : PySem.W.nsIn K mainGlobals "_law_spoilt" = some (some (.ref f18)))
    (l18 : K.lookup f18 = some ⟨oc18, od18, .func (PySem.W.fnOf "_law_spoilt" "_law_spoilt" (defArgs s__law_spoilt) (defBody s__law_spoilt) (defScope s__law_spoilt) .none kV18 dc18 pm18 an18 cd18 ct18), sl18⟩)
    (c18 : PySem.W.codeIn K cd18 "_law_spoilt" = true)
    (k18 : PySem.W.keepIn K (.ref f18) = true)
    (a19 : PySem.W.nsIn K mainGlobals "_law_told" = some (some (.ref f19)))
    (l19 : K.lookup f19 = some ⟨oc19, od19, .func (PySem.W.fnOf "_law_told" "_law_told" (defArgs s__law_told) (defBody s__law_told) (defScope s__law_told) .none kV19 dc19 pm19 an19 cd19 ct19), sl19⟩)
    (c19 : PySem.W.codeIn K cd19 "_law_told" = true)
    (k19 : PySem.W.keepIn K (.ref f19) = true)
    (a20 : PySem.W.nsIn K mainGlobals "law" = some (some (.ref f20)))
    (l20 : K.lookup f20 = some ⟨oc20, od20, .func (PySem.W.fnOf "law" "law" (defArgs s_law) (defBody s_law) (defScope s_law) .none kV20 dc20 pm20 an20 cd20 ct20), sl20⟩)
    (c20 : PySem.W.codeIn K cd20 "law" = true)
    (k20 : PySem.W.keepIn K (.ref f20) = true)
    (a_Array : PySem.W.nsIn K mainGlobals "Array" = some (some (.ref C_Array)))
    (a21 : PySem.W.findIn K (.ref C_Array) "__init__" = some (some (.ref f21)))
    (i21 : PySem.W.isFn K (.ref f21) = true)
    (l21 : K.lookup f21 = some ⟨oc21, od21, .func (PySem.W.fnOf "__init__" "Array.__init__" (defArgs s_Array___init__) (defBody s_Array___init__) (defScope s_Array___init__) .none kV21 dc21 pm21 an21 cd21 ct21), sl21⟩)
    (c21 : PySem.W.codeIn K cd21 "Array.__init__" = true)
    (k21 : PySem.W.keepIn K (.ref f21) = true)
    (a22 : PySem.W.findIn K (.ref C_Array) "__eq__" = some (some (.ref f22)))
    (i22 : PySem.W.isFn K (.ref f22) = true)
    (l22 : K.lookup f22 = some ⟨oc22, od22, .func (PySem.W.fnOf "__eq__" "Array.__eq__" (defArgs s_Array___eq__) (defBody s_Array___eq__) (defScope s_Array___eq__) .none kV22 dc22 pm22 an22 cd22 ct22), sl22⟩)
    (c22 : PySem.W.codeIn K cd22 "Array.__eq__" = true)
    (k22 : PySem.W.keepIn K (.ref f22) = true)
    (a23 : PySem.W.findIn K (.ref C_Array) "__str__" = some (some (.ref f23)))
    (i23 : PySem.W.isFn K (.ref f23) = true)
    (l23 : K.lookup f23 = some ⟨oc23, od23, .func (PySem.W.fnOf "__str__" "Array.__str__" (defArgs s_Array___str__) (defBody s_Array___str__) (defScope s_Array___str__) .none kV23 dc23 pm23 an23 cd23 ct23), sl23⟩)
    (c23 : PySem.W.codeIn K cd23 "Array.__str__" = true)
    (k23 : PySem.W.keepIn K (.ref f23) = true)
    (a24 : PySem.W.findIn K (.ref C_Array) "__repr__" = some (some (.ref f24)))
    (i24 : PySem.W.isFn K (.ref f24) = true)
    (l24 : K.lookup f24 = some ⟨oc24, od24, .func (PySem.W.fnOf "__repr__" "Array.__repr__" (defArgs s_Array___repr__) (defBody s_Array___repr__) (defScope s_Array___repr__) .none kV24 dc24 pm24 an24 cd24 ct24), sl24⟩)
    (c24 : PySem.W.codeIn K cd24 "Array.__repr__" = true)
    (k24 : PySem.W.keepIn K (.ref f24) = true)
    (pg_Array : PySem.W.plainGet K C_Array Str.empty = true)
    (hd_Array : PySem.W.hasDictIn K C_Array = true)
    (po_Array : PySem.W.plainOver K C_Array = true)
    (sa_Array : PySem.W.findIn K (.ref C_Array) "__setattr__" = some (some (.builtin "object.__setattr__")))
    (mk_Array : PySem.W.makesIn K C_Array = true)
    (kp_Array : PySem.W.keepIn K (.ref C_Array) = true)
    (ne_Array : PySem.W.findIn K (.ref C_Array) "__ne__" = some (some (.builtin "object.__ne__")))
    (ob_Array : PySem.W.mroIn K C_Array (.type "object") = some true)
    (nolist_Array : PySem.W.mroIn K C_Array (.type "list") = some false)
    (notuple_Array : PySem.W.mroIn K C_Array (.type "tuple") = some false)
    (nodict_Array : PySem.W.mroIn K C_Array (.type "dict") = some false)
    (nostr_Array : PySem.W.mroIn K C_Array (.type "str") = some false)
    (noint_Array : PySem.W.mroIn K C_Array (.type "int") = some false)
    (nobool_Array : PySem.W.mroIn K C_Array (.type "bool") = some false)
    (noNoneType_Array : PySem.W.mroIn K C_Array (.type "NoneType") = some false)
    (ca_Array : PySem.W.findIn K (.ref C_Array) "__class__" = some (some (.builtin "object.__class__")))
    (cn_Array : PySem.W.specialIn K (.builtin "object.__class__") "__get__" = some (some (.builtin "getset_descriptor.__get__")))
    (ct_Array : PySem.W.takesIn K (.builtin "object.__class__") = some true)
    (ci_Array : PySem.W.isClsIn K C_Array = true)
    (ti_Array : PySem.W.typeIn K (.ref C_Array) = some (.type "type"))
    (nf_shape_Array : PySem.W.findIn K (.ref C_Array) "shape" = some none)
    (nf_cells_Array : PySem.W.findIn K (.ref C_Array) "cells" = some none)
    (a_NoText : PySem.W.nsIn K mainGlobals "NoText" = some (some (.ref C_NoText)))
    (a25 : PySem.W.findIn K (.ref C_NoText) "__init__" = some (some (.ref f25)))
    (i25 : PySem.W.isFn K (.ref f25) = true)
    (l25 : K.lookup f25 = some ⟨oc25, od25, .func (PySem.W.fnOf "__init__" "NoText.__init__" (defArgs s_NoText___init__) (defBody s_NoText___init__) (defScope s_NoText___init__) .none kV25 dc25 pm25 an25 cd25 ct25), sl25⟩)
    (c25 : PySem.W.codeIn K cd25 "NoText.__init__" = true)
    (k25 : PySem.W.keepIn K (.ref f25) = true)
    (ii_NoText : PySem.W.excInitIn K C_NoText [.type "ValueError", .type "Exception", .type "BaseException", .type "object"] "ValueError.__new__" = true)
    (ov_NoText : PySem.W.excOver K C_NoText [.type "ValueError", .type "Exception", .type "BaseException", .type "object"] = true)
    (hd_NoText : PySem.W.hasDictIn K C_NoText = true)
    (sa_NoText : PySem.W.findIn K (.ref C_NoText) "__setattr__" = some (some (.builtin "object.__setattr__")))
    (ga_NoText : PySem.W.findIn K (.ref C_NoText) "__getattribute__" = some (some (.builtin "BaseException.__getattribute__")))
    (gt_NoText : PySem.W.findIn K (.ref C_NoText) "__getattr__" = some none)
    (ex_NoText : PySem.W.subIn K (.ref C_NoText) (.type "BaseException") = some true)
    (kp_NoText : PySem.W.keepIn K (.ref C_NoText) = true)
    (ob_NoText : PySem.W.mroIn K C_NoText (.type "object") = some true)
    (sf_NoText : PySem.W.subIn K (.ref C_NoText) (.ref C_NoText) = some true)
    (ca_NoText : PySem.W.findIn K (.ref C_NoText) "__class__" = some (some (.builtin "object.__class__")))
    (cn_NoText : PySem.W.specialIn K (.builtin "object.__class__") "__get__" = some (some (.builtin "getset_descriptor.__get__")))
    (ct_NoText : PySem.W.takesIn K (.builtin "object.__class__") = some true)
    (ci_NoText : PySem.W.isClsIn K C_NoText = true)
    (ti_NoText : PySem.W.typeIn K (.ref C_NoText) = some (.type "type"))
    (nf_text_NoText : PySem.W.findIn K (.ref C_NoText) "text" = some none)
    (a_NoShape : PySem.W.nsIn K mainGlobals "NoShape" = some (some (.ref C_NoShape)))
    (a_Miscount : PySem.W.nsIn K mainGlobals "Miscount" = some (some (.ref C_Miscount)))
    (a_NoTree : PySem.W.nsIn K mainGlobals "NoTree" = some (some (.ref C_NoTree)))
    (z_len : PySem.W.nsIn K mainGlobals "len" = some none)
    (z_list : PySem.W.nsIn K mainGlobals "list" = some none)
    (z_range : PySem.W.nsIn K mainGlobals "range" = some none)
    (z_isinstance : PySem.W.nsIn K mainGlobals "isinstance" = some none)
    (z_int : PySem.W.nsIn K mainGlobals "int" = some none)
    (z_bool : PySem.W.nsIn K mainGlobals "bool" = some none)
    (z_str : PySem.W.nsIn K mainGlobals "str" = some none)
    (z_tuple : PySem.W.nsIn K mainGlobals "tuple" = some none)
    (z_dict : PySem.W.nsIn K mainGlobals "dict" = some none)
    (z_all : PySem.W.nsIn K mainGlobals "all" = some none)
    (z_abs : PySem.W.nsIn K mainGlobals "abs" = some none)
    (z_repr : PySem.W.nsIn K mainGlobals "repr" = some none)
    (z_max : PySem.W.nsIn K mainGlobals "max" = some none)
    (z_min : PySem.W.nsIn K mainGlobals "min" = some none)
    (z_enumerate : PySem.W.nsIn K mainGlobals "enumerate" = some none)
    (z_zip : PySem.W.nsIn K mainGlobals "zip" = some none)
    (z_reversed : PySem.W.nsIn K mainGlobals "reversed" = some none)
    (z_sorted : PySem.W.nsIn K mainGlobals "sorted" = some none)
    (z_sum : PySem.W.nsIn K mainGlobals "sum" = some none)
    (z_any : PySem.W.nsIn K mainGlobals "any" = some none)
    (z_ValueError : PySem.W.nsIn K mainGlobals "ValueError" = some none)
    (fi_ValueError : PySem.W.findCls K (.type "ValueError") (.type "type") "__init__" = some (.val (.builtin "ValueError.__init__")))
    (g_MOST_AXES : PySem.W.nsIn K mainGlobals "MOST_AXES" = some (some (.int 6 t_MOST_AXES)))
    (g_MOST_SIZE : PySem.W.nsIn K mainGlobals "MOST_SIZE" = some (some (.int 4000 t_MOST_SIZE)))
    (g_MOST_FIGURES : PySem.W.nsIn K mainGlobals "MOST_FIGURES" = some (some (.int 4000 t_MOST_FIGURES)))
    (g_FIGURES : PySem.W.nsIn K mainGlobals "FIGURES" = some (some (.str "0123456789" t_FIGURES)))
    (e_nf_Array : ∀ n ∈ (["NoneType", "bool", "int", "str", "list", "tuple", "dict"] : List String), PySem.W.notFirst K C_Array (.type n) = true)
    (e_kf_Array : ∀ n ∈ (["NoneType", "bool", "int", "str", "list", "tuple", "dict"] : List String), PySem.W.kitOne K (.type n) (.ref C_Array) = some false)
    (e_nb_Array : PySem.W.findIn K (.ref C_Array) "__bool__" = some none)
    (e_an_NoText : PySem.W.exmAny K (.ref C_NoText) [.ref C_NoText] = some true)
    (e_kv_NoText : PySem.W.kitOne K (.ref C_NoText) (.type "ValueError") = some true)
    (e_kt_NoText : PySem.W.kitAny K (.ref C_NoText) [.ref C_NoShape, .ref C_Miscount, .ref C_NoTree] = some false)
    (e_lim : LimK K) :
    ∃ fd : FuncData, (∀ (s : Shared) (v : Value), BindsTo s fd ⟨[v], []⟩ [("_law_script", v)]) ∧ ∀ base : Heap, K.In base → base.Ns mainGlobals mg → (∃ o, base.get? sysModules = some o) → FnG l.prog w K mg base CX0 25 fa fd ["_law_script"] (Al.spLaw K) := by
  have e := hfa.symm.trans (PySem.W.mg_of X G a20)
  cases e
  have cl_Array : Cls K C_Array := ⟨pg_Array, hd_Array, po_Array, sa_Array⟩
  let M_Array___init__ : MtAt K C_Array "__init__" "Array.__init__" s_Array___init__ ["self", "shape", "cells"] := ⟨f21, _, (fun_mk (st := s_Array___init__) l21 c21 k21), (fun_mk (st := s_Array___init__) l21 c21 k21).binds (ps := ["self", "shape", "cells"]) fun _ _ _ _ _ _ us hl => match us, hl with | [_, _, _], _ => rfl, ⟨a21, i21, k21⟩⟩
  let M_Array___eq__ : MtAt K C_Array "__eq__" "Array.__eq__" s_Array___eq__ ["self", "other"] := ⟨f22, _, (fun_mk (st := s_Array___eq__) l22 c22 k22), (fun_mk (st := s_Array___eq__) l22 c22 k22).binds (ps := ["self", "other"]) fun _ _ _ _ _ _ us hl => match us, hl with | [_, _], _ => rfl, ⟨a22, i22, k22⟩⟩
  let M_Array___str__ : MtAt K C_Array "__str__" "Array.__str__" s_Array___str__ ["self"] := ⟨f23, _, (fun_mk (st := s_Array___str__) l23 c23 k23), (fun_mk (st := s_Array___str__) l23 c23 k23).binds (ps := ["self"]) fun _ _ _ _ _ _ us hl => match us, hl with | [_], _ => rfl, ⟨a23, i23, k23⟩⟩
  let M_Array___repr__ : MtAt K C_Array "__repr__" "Array.__repr__" s_Array___repr__ ["self"] := ⟨f24, _, (fun_mk (st := s_Array___repr__) l24 c24 k24), (fun_mk (st := s_Array___repr__) l24 c24 k24).binds (ps := ["self"]) fun _ _ _ _ _ _ us hl => match us, hl with | [_], _ => rfl, ⟨a24, i24, k24⟩⟩
  let M_NoText___init__ : MtAt K C_NoText "__init__" "NoText.__init__" s_NoText___init__ ["self", "text"] := ⟨f25, _, (fun_mk (st := s_NoText___init__) l25 c25 k25), (fun_mk (st := s_NoText___init__) l25 c25 k25).binds (ps := ["self", "text"]) fun _ _ _ _ _ _ us hl => match us, hl with | [_, _], _ => rfl, ⟨a25, i25, k25⟩⟩
  have T : Tx w K mg := {
    C_Array := C_Array
    C_NoText := C_NoText
    C_NoShape := C_NoShape
    C_Miscount := C_Miscount
    C_NoTree := C_NoTree
    Array___init__ := M_Array___init__
    Array___eq__ := M_Array___eq__
    Array___str__ := M_Array___str__
    Array___repr__ := M_Array___repr__
    Array := ⟨⟨mk_Array, M_Array___init__.m.at_, M_Array___init__.m.fn, kp_Array⟩, cl_Array, PySem.W.mg_of X G a_Array⟩
    ow_Array := ⟨M_Array___eq__.m.at_, M_Array___eq__.m.fn, ne_Array, ob_Array, nolist_Array, notuple_Array, nodict_Array, nostr_Array, noint_Array, nobool_Array, noNoneType_Array⟩
    ot_Array := ⟨cl_Array, fun h => .base (.ins h cl_Array ca_Array cn_Array ct_Array ob_Array)⟩
    kc_Array := kit_yes ci_Array ti_Array
    n_Array_shape := nf_shape_Array
    n_Array_cells := nf_cells_Array
    NoText___init__ := M_NoText___init__
    x_NoText := ⟨PySem.F.excBase_ValueError, PySem.F.store_ValueError, ii_NoText, ov_NoText, hd_NoText, sa_NoText, ga_NoText, ⟨_, gt_NoText⟩, ex_NoText, ti_NoText, kp_NoText, ci_NoText, ca_NoText, cn_NoText, ct_NoText, ob_NoText⟩
    s_NoText := PySem.W.exm_ref ex_NoText hd_NoText ti_NoText sf_NoText
    n_NoText_text := nf_text_NoText
    m_NoText := PySem.W.mg_of X G a_NoText
    m_NoShape := PySem.W.mg_of X G a_NoShape
    m_Miscount := PySem.W.mg_of X G a_Miscount
    m_NoTree := PySem.W.mg_of X G a_NoTree
    be_ValueError := ⟨by decide +kernel, by kernel_rfl, by decide +kernel, fi_ValueError, by decide +kernel⟩
    t_MOST_AXES := t_MOST_AXES
    c_MOST_AXES := PySem.W.mg_of X G g_MOST_AXES
    t_MOST_SIZE := t_MOST_SIZE
    c_MOST_SIZE := PySem.W.mg_of X G g_MOST_SIZE
    t_MOST_FIGURES := t_MOST_FIGURES
    c_MOST_FIGURES := PySem.W.mg_of X G g_MOST_FIGURES
    t_FIGURES := t_FIGURES
    c_FIGURES := PySem.W.mg_of X G g_FIGURES
    nf_Array := e_nf_Array
    kf_Array := e_kf_Array
    nb_Array := e_nb_Array
    an_NoText := e_an_NoText
    kv_NoText := e_kv_NoText
    kt_NoText := e_kt_NoText
    lim := e_lim
    is_whole := ⟨f0, _, (fun_mk (st := s_is_whole) l0 c0 k0), (fun_mk (st := s_is_whole) l0 c0 k0).binds (ps := ["thing"]) fun _ _ _ _ _ _ us hl => match us, hl with | [_], _ => rfl, PySem.W.mg_of X G a0⟩
    is_from := ⟨f1, _, (fun_mk (st := s_is_from) l1 c1 k1), (fun_mk (st := s_is_from) l1 c1 k1).binds (ps := ["thing", "least", "most"]) fun _ _ _ _ _ _ us hl => match us, hl with | [_, _, _], _ => rfl, PySem.W.mg_of X G a1⟩
    whole_in := ⟨f2, _, (fun_mk (st := s_whole_in) l2 c2 k2), (fun_mk (st := s_whole_in) l2 c2 k2).binds (ps := ["word"]) fun _ _ _ _ _ _ us hl => match us, hl with | [_], _ => rfl, PySem.W.mg_of X G a2⟩
    is_shape := ⟨f3, _, (fun_mk (st := s_is_shape) l3 c3 k3), (fun_mk (st := s_is_shape) l3 c3 k3).binds (ps := ["thing"]) fun _ _ _ _ _ _ us hl => match us, hl with | [_], _ => rfl, PySem.W.mg_of X G a3⟩
    count := ⟨f4, _, (fun_mk (st := s_count) l4 c4 k4), (fun_mk (st := s_count) l4 c4 k4).binds (ps := ["shape"]) fun _ _ _ _ _ _ us hl => match us, hl with | [_], _ => rfl, PySem.W.mg_of X G a4⟩
    shape_in := ⟨f5, _, (fun_mk (st := s_shape_in) l5 c5 k5), (fun_mk (st := s_shape_in) l5 c5 k5).binds (ps := ["text"]) fun _ _ _ _ _ _ us hl => match us, hl with | [_], _ => rfl, PySem.W.mg_of X G a5⟩
    read_array := ⟨f6, _, (fun_mk (st := s_read_array) l6 c6 k6), (fun_mk (st := s_read_array) l6 c6 k6).binds (ps := ["text"]) fun _ _ _ _ _ _ us hl => match us, hl with | [_], _ => rfl, PySem.W.mg_of X G a6⟩
    _law_feed := ⟨f7, _, (fun_mk (st := s__law_feed) l7 c7 k7), (fun_mk (st := s__law_feed) l7 c7 k7).binds (ps := ["_law_script"]) fun _ _ _ _ _ _ us hl => match us, hl with | [_], _ => rfl, PySem.W.mg_of X G a7⟩
    _law_draw := ⟨f8, _, (fun_mk (st := s__law_draw) l8 c8 k8), (fun_mk (st := s__law_draw) l8 c8 k8).binds (ps := ["_law_feed_here", "_law_many"]) fun _ _ _ _ _ _ us hl => match us, hl with | [_, _], _ => rfl, PySem.W.mg_of X G a8⟩
    _law_of := ⟨f9, _, (fun_mk (st := s__law_of) l9 c9 k9), (fun_mk (st := s__law_of) l9 c9 k9).binds (ps := ["_law_feed_here", "_law_some"]) fun _ _ _ _ _ _ us hl => match us, hl with | [_, _], _ => rfl, PySem.W.mg_of X G a9⟩
    _law_count := ⟨f10, _, (fun_mk (st := s__law_count) l10 c10 k10), (fun_mk (st := s__law_count) l10 c10 k10).binds (ps := ["_law_shape"]) fun _ _ _ _ _ _ us hl => match us, hl with | [_], _ => rfl, PySem.W.mg_of X G a10⟩
    _law_number := ⟨f11, _, (fun_mk (st := s__law_number) l11 c11 k11), (fun_mk (st := s__law_number) l11 c11 k11).binds (ps := ["_law_feed_here"]) fun _ _ _ _ _ _ us hl => match us, hl with | [_], _ => rfl, PySem.W.mg_of X G a11⟩
    _law_base := ⟨f12, _, (fun_mk (st := s__law_base) l12 c12 k12), (fun_mk (st := s__law_base) l12 c12 k12).binds (ps := ["_law_feed_here", "_law_axes", "_law_wide"]) fun _ _ _ _ _ _ us hl => match us, hl with | [_, _, _], _ => rfl, PySem.W.mg_of X G a12⟩
    _law_array_text := ⟨f13, _, (fun_mk (st := s__law_array_text) l13 c13 k13), (fun_mk (st := s__law_array_text) l13 c13 k13).binds (ps := ["_law_board"]) fun _ _ _ _ _ _ us hl => match us, hl with | [_], _ => rfl, PySem.W.mg_of X G a13⟩
    _law_is_board := ⟨f14, _, (fun_mk (st := s__law_is_board) l14 c14 k14), (fun_mk (st := s__law_is_board) l14 c14 k14).binds (ps := ["_law_array", "_law_board"]) fun _ _ _ _ _ _ us hl => match us, hl with | [_, _], _ => rfl, PySem.W.mg_of X G a14⟩
    _law_great := ⟨f15, _, (fun_mk (st := s__law_great) l15 c15 k15), (fun_mk (st := s__law_great) l15 c15 k15).binds (ps := ["_law_feed_here"]) fun _ _ _ _ _ _ us hl => match us, hl with | [_], _ => rfl, PySem.W.mg_of X G a15⟩
    _law_figures := ⟨f16, _, (fun_mk (st := s__law_figures) l16 c16 k16), (fun_mk (st := s__law_figures) l16 c16 k16).binds (ps := ["_law_word"]) fun _ _ _ _ _ _ us hl => match us, hl with | [_], _ => rfl, PySem.W.mg_of X G a16⟩
    _law_read := ⟨f17, _, (fun_mk (st := s__law_read) l17 c17 k17), (fun_mk (st := s__law_read) l17 c17 k17).binds (ps := ["_law_thing"]) fun _ _ _ _ _ _ us hl => match us, hl with | [_], _ => rfl, PySem.W.mg_of X G a17⟩
    _law_spoilt := ⟨f18, _, (fun_mk (st := s__law_spoilt) l18 c18 k18), (fun_mk (st := s__law_spoilt) l18 c18 k18).binds (ps := ["_law_feed_here", "_law_told_here"]) fun _ _ _ _ _ _ us hl => match us, hl with | [_, _], _ => rfl, PySem.W.mg_of X G a18⟩
    _law_told := ⟨f19, _, (fun_mk (st := s__law_told) l19 c19 k19), (fun_mk (st := s__law_told) l19 c19 k19).binds (ps := ["_law_thing"]) fun _ _ _ _ _ _ us hl => match us, hl with | [_], _ => rfl, PySem.W.mg_of X G a19⟩
    b_len := PySem.W.mg_none_of X G z_len
    b_list := PySem.W.mg_none_of X G z_list
    b_range := PySem.W.mg_none_of X G z_range
    b_isinstance := PySem.W.mg_none_of X G z_isinstance
    b_int := PySem.W.mg_none_of X G z_int
    b_bool := PySem.W.mg_none_of X G z_bool
    b_str := PySem.W.mg_none_of X G z_str
    b_tuple := PySem.W.mg_none_of X G z_tuple
    b_dict := PySem.W.mg_none_of X G z_dict
    b_all := PySem.W.mg_none_of X G z_all
    b_abs := PySem.W.mg_none_of X G z_abs
    b_repr := PySem.W.mg_none_of X G z_repr
    b_max := PySem.W.mg_none_of X G z_max
    b_min := PySem.W.mg_none_of X G z_min
    b_enumerate := PySem.W.mg_none_of X G z_enumerate
    b_zip := PySem.W.mg_none_of X G z_zip
    b_reversed := PySem.W.mg_none_of X G z_reversed
    b_sorted := PySem.W.mg_none_of X G z_sorted
    b_sum := PySem.W.mg_none_of X G z_sum
    b_any := PySem.W.mg_none_of X G z_any
    b_ValueError := PySem.W.mg_none_of X G z_ValueError }
  exact ⟨PySem.W.fnOf "law" "law" (defArgs s_law) (defBody s_law) (defScope s_law) .none kV20 dc20 pm20 an20 cd20 ct20, fun s v => .of_eq rfl, fun base _ _ hbs => Al.FnG.weak (ok_law T (fun_mk (st := s_law) l20 c20 k20)) fun vs H Q E h => Al.lift_law (by simp) law_plain h⟩
end Cr
namespace Hd
open PySem PySem.Spec PyProof.Rows L2 Cr
theorem facts {l : PySem.W.OpenLaw} {w : World} {L : List Addr} {K : PySem.W.Frag} {h : Heap} {mg : Str → Option Value} {fa : Addr} (X : K.In h) (G : h.Ns mainGlobals mg) (hfa : mg "law" = some (.ref fa)) (c : tp.see L K = tp.val w) :
    ∃ fd : FuncData, (∀ (s : Shared) (v : Value), BindsTo s fd ⟨[v], []⟩ [("_law_script", v)]) ∧ ∀ base : Heap, K.In base → base.Ns mainGlobals mg → (∃ o, base.get? sysModules = some o) → FnG l.prog w K mg base CX0 25 fa fd ["_law_script"] (Al.spLaw K) := by
  have cx : (exs.all fun p => p L K) = true := see_ex c
  obtain ⟨t_MOST_AXES, g_MOST_AXES⟩ := intC_ok (exAt cx 0 (p := e0) rfl)
  obtain ⟨t_MOST_SIZE, g_MOST_SIZE⟩ := intC_ok (exAt cx 1 (p := e1) rfl)
  obtain ⟨t_MOST_FIGURES, g_MOST_FIGURES⟩ := intC_ok (exAt cx 2 (p := e2) rfl)
  obtain ⟨t_FIGURES, g_FIGURES⟩ := strC_ok (exAt cx 3 (p := e3) rfl)
  obtain ⟨od0, an0, sl0, oc0, kV0, dc0, pm0, cd0, ct0, l0, c0, k0, kw0⟩ := see_fn c 0 (d := d0) rfl
  obtain ⟨od1, an1, sl1, oc1, kV1, dc1, pm1, cd1, ct1, l1, c1, k1, kw1⟩ := see_fn c 1 (d := d1) rfl
  obtain ⟨od2, an2, sl2, oc2, kV2, dc2, pm2, cd2, ct2, l2, c2, k2, kw2⟩ := see_fn c 2 (d := d2) rfl
  obtain ⟨od3, an3, sl3, oc3, kV3, dc3, pm3, cd3, ct3, l3, c3, k3, kw3⟩ := see_fn c 3 (d := d3) rfl
  obtain ⟨od4, an4, sl4, oc4, kV4, dc4, pm4, cd4, ct4, l4, c4, k4, kw4⟩ := see_fn c 4 (d := d4) rfl
  obtain ⟨od5, an5, sl5, oc5, kV5, dc5, pm5, cd5, ct5, l5, c5, k5, kw5⟩ := see_fn c 5 (d := d5) rfl
  obtain ⟨od6, an6, sl6, oc6, kV6, dc6, pm6, cd6, ct6, l6, c6, k6, kw6⟩ := see_fn c 6 (d := d6) rfl
  obtain ⟨od7, an7, sl7, oc7, kV7, dc7, pm7, cd7, ct7, l7, c7, k7, kw7⟩ := see_fn c 7 (d := d7) rfl
  obtain ⟨od8, an8, sl8, oc8, kV8, dc8, pm8, cd8, ct8, l8, c8, k8, kw8⟩ := see_fn c 8 (d := d8) rfl
  obtain ⟨od9, an9, sl9, oc9, kV9, dc9, pm9, cd9, ct9, l9, c9, k9, kw9⟩ := see_fn c 9 (d := d9) rfl
  obtain ⟨od10, an10, sl10, oc10, kV10, dc10, pm10, cd10, ct10, l10, c10, k10, kw10⟩ := see_fn c 10 (d := d10) rfl
  obtain ⟨od11, an11, sl11, oc11, kV11, dc11, pm11, cd11, ct11, l11, c11, k11, kw11⟩ := see_fn c 11 (d := d11) rfl
  obtain ⟨od12, an12, sl12, oc12, kV12, dc12, pm12, cd12, ct12, l12, c12, k12, kw12⟩ := see_fn c 12 (d := d12) rfl
  obtain ⟨od13, an13, sl13, oc13, kV13, dc13, pm13, cd13, ct13, l13, c13, k13, kw13⟩ := see_fn c 13 (d := d13) rfl
  obtain ⟨od14, an14, sl14, oc14, kV14, dc14, pm14, cd14, ct14, l14, c14, k14, kw14⟩ := see_fn c 14 (d := d14) rfl
  obtain ⟨od15, an15, sl15, oc15, kV15, dc15, pm15, cd15, ct15, l15, c15, k15, kw15⟩ := see_fn c 15 (d := d15) rfl
  obtain ⟨od16, an16, sl16, oc16, kV16, dc16, pm16, cd16, ct16, l16, c16, k16, kw16⟩ := see_fn c 16 (d := d16) rfl
  obtain ⟨od17, an17, sl17, oc17, kV17, dc17, pm17, cd17, ct17, l17, c17, k17, kw17⟩ := see_fn c 17 (d := d17) rfl
  obtain ⟨od18, an18, sl18, oc18, kV18, dc18, pm18, cd18, ct18, l18, c18, k18, kw18⟩ := see_fn c 18 (d := d18) rfl
  obtain ⟨od19, an19, sl19, oc19, kV19, dc19, pm19, cd19, ct19, l19, c19, k19, kw19⟩ := see_fn c 19 (d := d19) rfl
  obtain ⟨od20, an20, sl20, oc20, kV20, dc20, pm20, cd20, ct20, l20, c20, k20, kw20⟩ := see_fn c 20 (d := d20) rfl
  obtain ⟨od21, an21, sl21, oc21, kV21, dc21, pm21, cd21, ct21, l21, c21, k21, kw21⟩ := see_fn c 21 (d := d21) rfl
  obtain ⟨od22, an22, sl22, oc22, kV22, dc22, pm22, cd22, ct22, l22, c22, k22, kw22⟩ := see_fn c 22 (d := d22) rfl
  obtain ⟨od23, an23, sl23, oc23, kV23, dc23, pm23, cd23, ct23, l23, c23, k23, kw23⟩ := see_fn c 23 (d := d23) rfl
  obtain ⟨od24, an24, sl24, oc24, kV24, dc24, pm24, cd24, ct24, l24, c24, k24, kw24⟩ := see_fn c 24 (d := d24) rfl
  obtain ⟨od25, an25, sl25, oc25, kV25, dc25, pm25, cd25, ct25, l25, c25, k25, kw25⟩ := see_fn c 25 (d := d25) rfl
  have a0 : PySem.W.nsIn K mainGlobals "is_whole" = some (some (.ref (atL L 17))) := of_decide_eq_true (p := PySem.W.nsIn K mainGlobals "is_whole" = some (some (.ref (atL L 17)))) (exAt cx 4 (p := e4) rfl)
  have a1 : PySem.W.nsIn K mainGlobals "is_from" = some (some (.ref (atL L 18))) := of_decide_eq_true (p := PySem.W.nsIn K mainGlobals "is_from" = some (some (.ref (atL L 18)))) (exAt cx 5 (p := e5) rfl)
  have a2 : PySem.W.nsIn K mainGlobals "whole_in" = some (some (.ref (atL L 19))) := of_decide_eq_true (p := PySem.W.nsIn K mainGlobals "whole_in" = some (some (.ref (atL L 19)))) (exAt cx 6 (p := e6) rfl)
  have a3 : PySem.W.nsIn K mainGlobals "is_shape" = some (some (.ref (atL L 22))) := of_decide_eq_true (p := PySem.W.nsIn K mainGlobals "is_shape" = some (some (.ref (atL L 22)))) (exAt cx 7 (p := e7) rfl)
  have a4 : PySem.W.nsIn K mainGlobals "count" = some (some (.ref (atL L 23))) := of_decide_eq_true (p := PySem.W.nsIn K mainGlobals "count" = some (some (.ref (atL L 23)))) (exAt cx 8 (p := e8) rfl)
  have a5 : PySem.W.nsIn K mainGlobals "shape_in" = some (some (.ref (atL L 27))) := of_decide_eq_true (p := PySem.W.nsIn K mainGlobals "shape_in" = some (some (.ref (atL L 27)))) (exAt cx 9 (p := e9) rfl)
  have a6 : PySem.W.nsIn K mainGlobals "read_array" = some (some (.ref (atL L 28))) := of_decide_eq_true (p := PySem.W.nsIn K mainGlobals "read_array" = some (some (.ref (atL L 28)))) (exAt cx 10 (p := e10) rfl)
  have a7 : PySem.W.nsIn K mainGlobals "_law_feed" = some (some (.ref (atL L 29))) := of_decide_eq_true (p := PySem.W.nsIn K mainGlobals "_law_feed" = some (some (.ref (atL L 29)))) (exAt cx 11 (p := e11) rfl)
  have a8 : PySem.W.nsIn K mainGlobals "_law_draw" = some (some (.ref (atL L 30))) := of_decide_eq_true (p := PySem.W.nsIn K mainGlobals "_law_draw" = some (some (.ref (atL L 30)))) (exAt cx 12 (p := e12) rfl)
  have a9 : PySem.W.nsIn K mainGlobals "_law_of" = some (some (.ref (atL L 31))) := of_decide_eq_true (p := PySem.W.nsIn K mainGlobals "_law_of" = some (some (.ref (atL L 31)))) (exAt cx 13 (p := e13) rfl)
  have a10 : PySem.W.nsIn K mainGlobals "_law_count" = some (some (.ref (atL L 32))) := of_decide_eq_true (p := PySem.W.nsIn K mainGlobals "_law_count" = some (some (.ref (atL L 32)))) (exAt cx 14 (p := e14) rfl)
  have a11 : PySem.W.nsIn K mainGlobals "_law_number" = some (some (.ref (atL L 33))) := of_decide_eq_true (p := PySem.W.nsIn K mainGlobals "_law_number" = some (some (.ref (atL L 33)))) (exAt cx 15 (p := e15) rfl)
  have a12 : PySem.W.nsIn K mainGlobals "_law_base" = some (some (.ref (atL L 34))) := of_decide_eq_true (p := PySem.W.nsIn K mainGlobals "_law_base" = some (some (.ref (atL L 34)))) (exAt cx 16 (p := e16) rfl)
  have a13 : PySem.W.nsIn K mainGlobals "_law_array_text" = some (some (.ref (atL L 35))) := of_decide_eq_true (p := PySem.W.nsIn K mainGlobals "_law_array_text" = some (some (.ref (atL L 35)))) (exAt cx 17 (p := e17) rfl)
  have a14 : PySem.W.nsIn K mainGlobals "_law_is_board" = some (some (.ref (atL L 36))) := of_decide_eq_true (p := PySem.W.nsIn K mainGlobals "_law_is_board" = some (some (.ref (atL L 36)))) (exAt cx 18 (p := e18) rfl)
  have a15 : PySem.W.nsIn K mainGlobals "_law_great" = some (some (.ref (atL L 37))) := of_decide_eq_true (p := PySem.W.nsIn K mainGlobals "_law_great" = some (some (.ref (atL L 37)))) (exAt cx 19 (p := e19) rfl)
  have a16 : PySem.W.nsIn K mainGlobals "_law_figures" = some (some (.ref (atL L 38))) := of_decide_eq_true (p := PySem.W.nsIn K mainGlobals "_law_figures" = some (some (.ref (atL L 38)))) (exAt cx 20 (p := e20) rfl)
  have a17 : PySem.W.nsIn K mainGlobals "_law_read" = some (some (.ref (atL L 39))) := of_decide_eq_true (p := PySem.W.nsIn K mainGlobals "_law_read" = some (some (.ref (atL L 39)))) (exAt cx 21 (p := e21) rfl)
  have a18 : PySem.W.nsIn K mainGlobals "_law_spoilt" = some (some (.ref (atL L 40))) := of_decide_eq_true (p := PySem.W.nsIn K mainGlobals "_law_spoilt" = some (some (.ref (atL L 40)))) (exAt cx 22 (p := e22) rfl)
  have a19 : PySem.W.nsIn K mainGlobals "_law_told" = some (some (.ref (atL L 41))) := of_decide_eq_true (p := PySem.W.nsIn K mainGlobals "_law_told" = some (some (.ref (atL L 41)))) (exAt cx 23 (p := e23) rfl)
  have a20 : PySem.W.nsIn K mainGlobals "law" = some (some (.ref (atL L 42))) := of_decide_eq_true (p := PySem.W.nsIn K mainGlobals "law" = some (some (.ref (atL L 42)))) (exAt cx 24 (p := e24) rfl)
  have a_Array : PySem.W.nsIn K mainGlobals "Array" = some (some (.ref (atL L 26))) := of_decide_eq_true (p := PySem.W.nsIn K mainGlobals "Array" = some (some (.ref (atL L 26)))) (exAt cx 25 (p := e25) rfl)
  have a21 : PySem.W.findIn K (.ref (atL L 26)) "__init__" = some (some (.ref (atL L 43))) := of_decide_eq_true (p := PySem.W.findIn K (.ref (atL L 26)) "__init__" = some (some (.ref (atL L 43)))) (exAt cx 26 (p := e26) rfl)
  have i21 : PySem.W.isFn K (.ref (atL L 43)) = true := of_decide_eq_true (p := PySem.W.isFn K (.ref (atL L 43)) = true) (exAt cx 27 (p := e27) rfl)
  have a22 : PySem.W.findIn K (.ref (atL L 26)) "__eq__" = some (some (.ref (atL L 44))) := of_decide_eq_true (p := PySem.W.findIn K (.ref (atL L 26)) "__eq__" = some (some (.ref (atL L 44)))) (exAt cx 28 (p := e28) rfl)
  have i22 : PySem.W.isFn K (.ref (atL L 44)) = true := of_decide_eq_true (p := PySem.W.isFn K (.ref (atL L 44)) = true) (exAt cx 29 (p := e29) rfl)
  have a23 : PySem.W.findIn K (.ref (atL L 26)) "__str__" = some (some (.ref (atL L 45))) := of_decide_eq_true (p := PySem.W.findIn K (.ref (atL L 26)) "__str__" = some (some (.ref (atL L 45)))) (exAt cx 30 (p := e30) rfl)
  have i23 : PySem.W.isFn K (.ref (atL L 45)) = true := of_decide_eq_true (p := PySem.W.isFn K (.ref (atL L 45)) = true) (exAt cx 31 (p := e31) rfl)
  have a24 : PySem.W.findIn K (.ref (atL L 26)) "__repr__" = some (some (.ref (atL L 46))) := of_decide_eq_true (p := PySem.W.findIn K (.ref (atL L 26)) "__repr__" = some (some (.ref (atL L 46)))) (exAt cx 32 (p := e32) rfl)
  have i24 : PySem.W.isFn K (.ref (atL L 46)) = true := of_decide_eq_true (p := PySem.W.isFn K (.ref (atL L 46)) = true) (exAt cx 33 (p := e33) rfl)
  have pg_Array : PySem.W.plainGet K (atL L 26) Str.empty = true := of_decide_eq_true (p := PySem.W.plainGet K (atL L 26) Str.empty = true) (exAt cx 34 (p := e34) rfl)
  have hd_Array : PySem.W.hasDictIn K (atL L 26) = true := of_decide_eq_true (p := PySem.W.hasDictIn K (atL L 26) = true) (exAt cx 35 (p := e35) rfl)
  have po_Array : PySem.W.plainOver K (atL L 26) = true := of_decide_eq_true (p := PySem.W.plainOver K (atL L 26) = true) (exAt cx 36 (p := e36) rfl)
  have sa_Array : PySem.W.findIn K (.ref (atL L 26)) "__setattr__" = some (some (.builtin "object.__setattr__")) := of_decide_eq_true (p := PySem.W.findIn K (.ref (atL L 26)) "__setattr__" = some (some (.builtin "object.__setattr__"))) (exAt cx 37 (p := e37) rfl)
  have mk_Array : PySem.W.makesIn K (atL L 26) = true := of_decide_eq_true (p := PySem.W.makesIn K (atL L 26) = true) (exAt cx 38 (p := e38) rfl)
  have kp_Array : PySem.W.keepIn K (.ref (atL L 26)) = true := of_decide_eq_true (p := PySem.W.keepIn K (.ref (atL L 26)) = true) (exAt cx 39 (p := e39) rfl)
  have ne_Array : PySem.W.findIn K (.ref (atL L 26)) "__ne__" = some (some (.builtin "object.__ne__")) := of_decide_eq_true (p := PySem.W.findIn K (.ref (atL L 26)) "__ne__" = some (some (.builtin "object.__ne__"))) (exAt cx 40 (p := e40) rfl)
  have ob_Array : PySem.W.mroIn K (atL L 26) (.type "object") = some true := of_decide_eq_true (p := PySem.W.mroIn K (atL L 26) (.type "object") = some true) (exAt cx 41 (p := e41) rfl)
  have nolist_Array : PySem.W.mroIn K (atL L 26) (.type "list") = some false := of_decide_eq_true (p := PySem.W.mroIn K (atL L 26) (.type "list") = some false) (exAt cx 42 (p := e42) rfl)
  have notuple_Array : PySem.W.mroIn K (atL L 26) (.type "tuple") = some false := of_decide_eq_true (p := PySem.W.mroIn K (atL L 26) (.type "tuple") = some false) (exAt cx 43 (p := e43) rfl)
  have nodict_Array : PySem.W.mroIn K (atL L 26) (.type "dict") = some false := of_decide_eq_true (p := PySem.W.mroIn K (atL L 26) (.type "dict") = some false) (exAt cx 44 (p := e44) rfl)
  have nostr_Array : PySem.W.mroIn K (atL L 26) (.type "str") = some false := of_decide_eq_true (p := PySem.W.mroIn K (atL L 26) (.type "str") = some false) (exAt cx 45 (p := e45) rfl)
  have noint_Array : PySem.W.mroIn K (atL L 26) (.type "int") = some false := of_decide_eq_true (p := PySem.W.mroIn K (atL L 26) (.type "int") = some false) (exAt cx 46 (p := e46) rfl)
  have nobool_Array : PySem.W.mroIn K (atL L 26) (.type "bool") = some false := of_decide_eq_true (p := PySem.W.mroIn K (atL L 26) (.type "bool") = some false) (exAt cx 47 (p := e47) rfl)
  have noNoneType_Array : PySem.W.mroIn K (atL L 26) (.type "NoneType") = some false := of_decide_eq_true (p := PySem.W.mroIn K (atL L 26) (.type "NoneType") = some false) (exAt cx 48 (p := e48) rfl)
  have ca_Array : PySem.W.findIn K (.ref (atL L 26)) "__class__" = some (some (.builtin "object.__class__")) := of_decide_eq_true (p := PySem.W.findIn K (.ref (atL L 26)) "__class__" = some (some (.builtin "object.__class__"))) (exAt cx 49 (p := e49) rfl)
  have cn_Array : PySem.W.specialIn K (.builtin "object.__class__") "__get__" = some (some (.builtin "getset_descriptor.__get__")) := of_decide_eq_true (p := PySem.W.specialIn K (.builtin "object.__class__") "__get__" = some (some (.builtin "getset_descriptor.__get__"))) (exAt cx 50 (p := e50) rfl)
  have ct_Array : PySem.W.takesIn K (.builtin "object.__class__") = some true := of_decide_eq_true (p := PySem.W.takesIn K (.builtin "object.__class__") = some true) (exAt cx 51 (p := e51) rfl)
  have ci_Array : PySem.W.isClsIn K (atL L 26) = true := of_decide_eq_true (p := PySem.W.isClsIn K (atL L 26) = true) (exAt cx 52 (p := e52) rfl)
  have ti_Array : PySem.W.typeIn K (.ref (atL L 26)) = some (.type "type") := of_decide_eq_true (p := PySem.W.typeIn K (.ref (atL L 26)) = some (.type "type")) (exAt cx 53 (p := e53) rfl)
  have nf_shape_Array : PySem.W.findIn K (.ref (atL L 26)) "shape" = some none := of_decide_eq_true (p := PySem.W.findIn K (.ref (atL L 26)) "shape" = some none) (exAt cx 54 (p := e54) rfl)
  have nf_cells_Array : PySem.W.findIn K (.ref (atL L 26)) "cells" = some none := of_decide_eq_true (p := PySem.W.findIn K (.ref (atL L 26)) "cells" = some none) (exAt cx 55 (p := e55) rfl)
  have a_NoText : PySem.W.nsIn K mainGlobals "NoText" = some (some (.ref (atL L 12))) := of_decide_eq_true (p := PySem.W.nsIn K mainGlobals "NoText" = some (some (.ref (atL L 12)))) (exAt cx 56 (p := e56) rfl)
  have a25 : PySem.W.findIn K (.ref (atL L 12)) "__init__" = some (some (.ref (atL L 47))) := of_decide_eq_true (p := PySem.W.findIn K (.ref (atL L 12)) "__init__" = some (some (.ref (atL L 47)))) (exAt cx 57 (p := e57) rfl)
  have i25 : PySem.W.isFn K (.ref (atL L 47)) = true := of_decide_eq_true (p := PySem.W.isFn K (.ref (atL L 47)) = true) (exAt cx 58 (p := e58) rfl)
  have ii_NoText : PySem.W.excInitIn K (atL L 12) [.type "ValueError", .type "Exception", .type "BaseException", .type "object"] "ValueError.__new__" = true := of_decide_eq_true (p := PySem.W.excInitIn K (atL L 12) [.type "ValueError", .type "Exception", .type "BaseException", .type "object"] "ValueError.__new__" = true) (exAt cx 59 (p := e59) rfl)
  have ov_NoText : PySem.W.excOver K (atL L 12) [.type "ValueError", .type "Exception", .type "BaseException", .type "object"] = true := of_decide_eq_true (p := PySem.W.excOver K (atL L 12) [.type "ValueError", .type "Exception", .type "BaseException", .type "object"] = true) (exAt cx 60 (p := e60) rfl)
  have hd_NoText : PySem.W.hasDictIn K (atL L 12) = true := of_decide_eq_true (p := PySem.W.hasDictIn K (atL L 12) = true) (exAt cx 61 (p := e61) rfl)
  have sa_NoText : PySem.W.findIn K (.ref (atL L 12)) "__setattr__" = some (some (.builtin "object.__setattr__")) := of_decide_eq_true (p := PySem.W.findIn K (.ref (atL L 12)) "__setattr__" = some (some (.builtin "object.__setattr__"))) (exAt cx 62 (p := e62) rfl)
  have ga_NoText : PySem.W.findIn K (.ref (atL L 12)) "__getattribute__" = some (some (.builtin "BaseException.__getattribute__")) := of_decide_eq_true (p := PySem.W.findIn K (.ref (atL L 12)) "__getattribute__" = some (some (.builtin "BaseException.__getattribute__"))) (exAt cx 63 (p := e63) rfl)
  have gt_NoText : PySem.W.findIn K (.ref (atL L 12)) "__getattr__" = some none := of_decide_eq_true (p := PySem.W.findIn K (.ref (atL L 12)) "__getattr__" = some none) (exAt cx 64 (p := e64) rfl)
  have ex_NoText : PySem.W.subIn K (.ref (atL L 12)) (.type "BaseException") = some true := of_decide_eq_true (p := PySem.W.subIn K (.ref (atL L 12)) (.type "BaseException") = some true) (exAt cx 65 (p := e65) rfl)
  have kp_NoText : PySem.W.keepIn K (.ref (atL L 12)) = true := of_decide_eq_true (p := PySem.W.keepIn K (.ref (atL L 12)) = true) (exAt cx 66 (p := e66) rfl)
  have ob_NoText : PySem.W.mroIn K (atL L 12) (.type "object") = some true := of_decide_eq_true (p := PySem.W.mroIn K (atL L 12) (.type "object") = some true) (exAt cx 67 (p := e67) rfl)
  have sf_NoText : PySem.W.subIn K (.ref (atL L 12)) (.ref (atL L 12)) = some true := of_decide_eq_true (p := PySem.W.subIn K (.ref (atL L 12)) (.ref (atL L 12)) = some true) (exAt cx 68 (p := e68) rfl)
  have ca_NoText : PySem.W.findIn K (.ref (atL L 12)) "__class__" = some (some (.builtin "object.__class__")) := of_decide_eq_true (p := PySem.W.findIn K (.ref (atL L 12)) "__class__" = some (some (.builtin "object.__class__"))) (exAt cx 69 (p := e69) rfl)
  have cn_NoText : PySem.W.specialIn K (.builtin "object.__class__") "__get__" = some (some (.builtin "getset_descriptor.__get__")) := of_decide_eq_true (p := PySem.W.specialIn K (.builtin "object.__class__") "__get__" = some (some (.builtin "getset_descriptor.__get__"))) (exAt cx 70 (p := e70) rfl)
  have ct_NoText : PySem.W.takesIn K (.builtin "object.__class__") = some true := of_decide_eq_true (p := PySem.W.takesIn K (.builtin "object.__class__") = some true) (exAt cx 71 (p := e71) rfl)
  have ci_NoText : PySem.W.isClsIn K (atL L 12) = true := of_decide_eq_true (p := PySem.W.isClsIn K (atL L 12) = true) (exAt cx 72 (p := e72) rfl)
  have ti_NoText : PySem.W.typeIn K (.ref (atL L 12)) = some (.type "type") := of_decide_eq_true (p := PySem.W.typeIn K (.ref (atL L 12)) = some (.type "type")) (exAt cx 73 (p := e73) rfl)
  have nf_text_NoText : PySem.W.findIn K (.ref (atL L 12)) "text" = some none := of_decide_eq_true (p := PySem.W.findIn K (.ref (atL L 12)) "text" = some none) (exAt cx 74 (p := e74) rfl)
  have a_NoShape : PySem.W.nsIn K mainGlobals "NoShape" = some (some (.ref (atL L 10))) := of_decide_eq_true (p := PySem.W.nsIn K mainGlobals "NoShape" = some (some (.ref (atL L 10)))) (exAt cx 75 (p := e75) rfl)
  have a_Miscount : PySem.W.nsIn K mainGlobals "Miscount" = some (some (.ref (atL L 11))) := of_decide_eq_true (p := PySem.W.nsIn K mainGlobals "Miscount" = some (some (.ref (atL L 11)))) (exAt cx 76 (p := e76) rfl)
  have a_NoTree : PySem.W.nsIn K mainGlobals "NoTree" = some (some (.ref (atL L 13))) := of_decide_eq_true (p := PySem.W.nsIn K mainGlobals "NoTree" = some (some (.ref (atL L 13)))) (exAt cx 77 (p := e77) rfl)
  have z_len : PySem.W.nsIn K mainGlobals "len" = some none := of_decide_eq_true (p := PySem.W.nsIn K mainGlobals "len" = some none) (exAt cx 78 (p := e78) rfl)
  have z_list : PySem.W.nsIn K mainGlobals "list" = some none := of_decide_eq_true (p := PySem.W.nsIn K mainGlobals "list" = some none) (exAt cx 79 (p := e79) rfl)
  have z_range : PySem.W.nsIn K mainGlobals "range" = some none := of_decide_eq_true (p := PySem.W.nsIn K mainGlobals "range" = some none) (exAt cx 80 (p := e80) rfl)
  have z_isinstance : PySem.W.nsIn K mainGlobals "isinstance" = some none := of_decide_eq_true (p := PySem.W.nsIn K mainGlobals "isinstance" = some none) (exAt cx 81 (p := e81) rfl)
  have z_int : PySem.W.nsIn K mainGlobals "int" = some none := of_decide_eq_true (p := PySem.W.nsIn K mainGlobals "int" = some none) (exAt cx 82 (p := e82) rfl)
  have z_bool : PySem.W.nsIn K mainGlobals "bool" = some none := of_decide_eq_true (p := PySem.W.nsIn K mainGlobals "bool" = some none) (exAt cx 83 (p := e83) rfl)
  have z_str : PySem.W.nsIn K mainGlobals "str" = some none := of_decide_eq_true (p := PySem.W.nsIn K mainGlobals "str" = some none) (exAt cx 84 (p := e84) rfl)
  have z_tuple : PySem.W.nsIn K mainGlobals "tuple" = some none := of_decide_eq_true (p := PySem.W.nsIn K mainGlobals "tuple" = some none) (exAt cx 85 (p := e85) rfl)
  have z_dict : PySem.W.nsIn K mainGlobals "dict" = some none := of_decide_eq_true (p := PySem.W.nsIn K mainGlobals "dict" = some none) (exAt cx 86 (p := e86) rfl)
  have z_all : PySem.W.nsIn K mainGlobals "all" = some none := of_decide_eq_true (p := PySem.W.nsIn K mainGlobals "all" = some none) (exAt cx 87 (p := e87) rfl)
  have z_abs : PySem.W.nsIn K mainGlobals "abs" = some none := of_decide_eq_true (p := PySem.W.nsIn K mainGlobals "abs" = some none) (exAt cx 88 (p := e88) rfl)
  have z_repr : PySem.W.nsIn K mainGlobals "repr" = some none := of_decide_eq_true (p := PySem.W.nsIn K mainGlobals "repr" = some none) (exAt cx 89 (p := e89) rfl)
  have z_max : PySem.W.nsIn K mainGlobals "max" = some none := of_decide_eq_true (p := PySem.W.nsIn K mainGlobals "max" = some none) (exAt cx 90 (p := e90) rfl)
  have z_min : PySem.W.nsIn K mainGlobals "min" = some none := of_decide_eq_true (p := PySem.W.nsIn K mainGlobals "min" = some none) (exAt cx 91 (p := e91) rfl)
  have z_enumerate : PySem.W.nsIn K mainGlobals "enumerate" = some none := of_decide_eq_true (p := PySem.W.nsIn K mainGlobals "enumerate" = some none) (exAt cx 92 (p := e92) rfl)
  have z_zip : PySem.W.nsIn K mainGlobals "zip" = some none := of_decide_eq_true (p := PySem.W.nsIn K mainGlobals "zip" = some none) (exAt cx 93 (p := e93) rfl)
  have z_reversed : PySem.W.nsIn K mainGlobals "reversed" = some none := of_decide_eq_true (p := PySem.W.nsIn K mainGlobals "reversed" = some none) (exAt cx 94 (p := e94) rfl)
  have z_sorted : PySem.W.nsIn K mainGlobals "sorted" = some none := of_decide_eq_true (p := PySem.W.nsIn K mainGlobals "sorted" = some none) (exAt cx 95 (p := e95) rfl)
  have z_sum : PySem.W.nsIn K mainGlobals "sum" = some none := of_decide_eq_true (p := PySem.W.nsIn K mainGlobals "sum" = some none) (exAt cx 96 (p := e96) rfl)
  have z_any : PySem.W.nsIn K mainGlobals "any" = some none := of_decide_eq_true (p := PySem.W.nsIn K mainGlobals "any" = some none) (exAt cx 97 (p := e97) rfl)
  have z_ValueError : PySem.W.nsIn K mainGlobals "ValueError" = some none := of_decide_eq_true (p := PySem.W.nsIn K mainGlobals "ValueError" = some none) (exAt cx 98 (p := e98) rfl)
  have fi_ValueError : PySem.W.findCls K (.type "ValueError") (.type "type") "__init__" = some (.val (.builtin "ValueError.__init__")) := valC_ok (exAt cx 99 (p := e99) rfl)
  have e_nf_Array : ∀ n ∈ (["NoneType", "bool", "int", "str", "list", "tuple", "dict"] : List String), PySem.W.notFirst K (atL L 26) (.type n) = true := of_decide_eq_true (p := ∀ n ∈ (["NoneType", "bool", "int", "str", "list", "tuple", "dict"] : List String), PySem.W.notFirst K (atL L 26) (.type n) = true) (exAt cx 100 (p := e100) rfl)
  have e_kf_Array : ∀ n ∈ (["NoneType", "bool", "int", "str", "list", "tuple", "dict"] : List String), PySem.W.kitOne K (.type n) (.ref (atL L 26)) = some false := of_decide_eq_true (p := ∀ n ∈ (["NoneType", "bool", "int", "str", "list", "tuple", "dict"] : List String), PySem.W.kitOne K (.type n) (.ref (atL L 26)) = some false) (exAt cx 101 (p := e101) rfl)
  have e_nb_Array : PySem.W.findIn K (.ref (atL L 26)) "__bool__" = some none := of_decide_eq_true (p := PySem.W.findIn K (.ref (atL L 26)) "__bool__" = some none) (exAt cx 102 (p := e102) rfl)
  have e_an_NoText : PySem.W.exmAny K (.ref (atL L 12)) [.ref (atL L 12)] = some true := of_decide_eq_true (p := PySem.W.exmAny K (.ref (atL L 12)) [.ref (atL L 12)] = some true) (exAt cx 103 (p := e103) rfl)
  have e_kv_NoText : PySem.W.kitOne K (.ref (atL L 12)) (.type "ValueError") = some true := of_decide_eq_true (p := PySem.W.kitOne K (.ref (atL L 12)) (.type "ValueError") = some true) (exAt cx 104 (p := e104) rfl)
  have e_kt_NoText : PySem.W.kitAny K (.ref (atL L 12)) [.ref (atL L 10), .ref (atL L 11), .ref (atL L 13)] = some false := of_decide_eq_true (p := PySem.W.kitAny K (.ref (atL L 12)) [.ref (atL L 10), .ref (atL L 11), .ref (atL L 13)] = some false) (exAt cx 105 (p := e105) rfl)
  have e_lim : LimK K := limC_ok (exAt cx 106 (p := e106) rfl)
  exact all_mk (f0 := (atL L 17)) (f1 := (atL L 18)) (f2 := (atL L 19)) (f3 := (atL L 22)) (f4 := (atL L 23)) (f5 := (atL L 27)) (f6 := (atL L 28)) (f7 := (atL L 29)) (f8 := (atL L 30)) (f9 := (atL L 31)) (f10 := (atL L 32)) (f11 := (atL L 33)) (f12 := (atL L 34)) (f13 := (atL L 35)) (f14 := (atL L 36)) (f15 := (atL L 37)) (f16 := (atL L 38)) (f17 := (atL L 39)) (f18 := (atL L 40)) (f19 := (atL L 41)) (f20 := (atL L 42)) (C_Array := atL L 26) (f21 := (atL L 43)) (f22 := (atL L 44)) (f23 := (atL L 45)) (f24 := (atL L 46)) (C_NoText := atL L 12) (f25 := (atL L 47)) (C_NoShape := atL L 10) (C_Miscount := atL L 11) (C_NoTree := atL L 13) X G hfa a0 l0 c0 k0 a1 l1 c1 k1 a2 l2 c2 k2 a3 l3 c3 k3 a4 l4 c4 k4 a5 l5 c5 k5 a6 l6 c6 k6 a7 l7 c7 k7 a8 l8 c8 k8 a9 l9 c9 k9 a10 l10 c10 k10 a11 l11 c11 k11 a12 l12 c12 k12 a13 l13 c13 k13 a14 l14 c14 k14 a15 l15 c15 k15 a16 l16 c16 k16 a17 l17 c17 k17 a18 l18 c18 k18 a19 l19 c19 k19 a20 l20 c20 k20 a_Array a21 i21 l21 c21 k21 a22 i22 l22 c22 k22 a23 i23 l23 c23 k23 a24 i24 l24 c24 k24 pg_Array hd_Array po_Array sa_Array mk_Array kp_Array ne_Array ob_Array nolist_Array notuple_Array nodict_Array nostr_Array noint_Array nobool_Array noNoneType_Array ca_Array cn_Array ct_Array ci_Array ti_Array nf_shape_Array nf_cells_Array a_NoText a25 i25 l25 c25 k25 ii_NoText ov_NoText hd_NoText sa_NoText ga_NoText gt_NoText ex_NoText kp_NoText ob_NoText sf_NoText ca_NoText cn_NoText ct_NoText ci_NoText ti_NoText nf_text_NoText a_NoShape a_Miscount a_NoTree z_len z_list z_range z_isinstance z_int z_bool z_str z_tuple z_dict z_all z_abs z_repr z_max z_min z_enumerate z_zip z_reversed z_sorted z_sum z_any z_ValueError fi_ValueError g_MOST_AXES g_MOST_SIZE g_MOST_FIGURES g_FIGURES e_nf_Array e_kf_Array e_nb_Array e_an_NoText e_kv_NoText e_kt_NoText e_lim
end Hd
open PySem PySem.W PyProof.Rows in
set_option maxRecDepth 100000 in
set_option maxHeartbeats 0 in
theorem PySem.Challenge.cw_cellranks_k07_arrays_read_and_refused_holds : PySem.Challenge.rw_cellranks_k07_arrays_read_and_refused.Holds := by
  w_on; o_law
  refine HandSHeadRun.head_any (r := OpenLaw.row PySem.Challenge.rw_cellranks_k07_arrays_read_and_refused) (q := Hd.qv) (H := Hd.hk) (ob := Hd.ob) (M := 40000) (loose := Hd.names) (d := HandSHeadRun.topDef (OpenLaw.row PySem.Challenge.rw_cellranks_k07_arrays_read_and_refused).prog 37) (kwd := []) Hd.ob_eq
    Hd.z1 Hd.z2 Hd.run Hd.z3 Hd.z4 Hd.z5 Hd.z6 (by first | assumption | exact Hd.z7) Hd.z8 Hd.z9 ?hw ?hc
  case hw => w_witness2
  case hc =>
    refine Hd.endH (l := PySem.Challenge.rw_cellranks_k07_arrays_read_and_refused) (n := 63) (k := 25) (x := "_law_script") Hd.z10 rfl (by decide) Hd.z11 ⟨rfl, by decide, by decide⟩ ?F
    intro w mg fa h Y G hmg0
    obtain ⟨L, K, KX, c⟩ := Y
    have hmg : mg ("law" : PySem.Str) = some (.ref fa) := by
      have e : (HandSHeadRun.topDef (OpenLaw.row PySem.Challenge.rw_cellranks_k07_arrays_read_and_refused).prog 37).name = ("law" : PySem.Str) := Hd.z12
      rw [← e]
      exact hmg0
    obtain ⟨fd, hb, hF⟩ := Hd.facts (l := PySem.Challenge.rw_cellranks_k07_arrays_read_and_refused) (w := w) KX G hmg c
    exact ⟨K, fd, Al.spLaw K, KX, hb, hF, fun H a ns hl _ hS => ⟨a, ns, rfl, hS, hl, fun _ => rfl⟩⟩
