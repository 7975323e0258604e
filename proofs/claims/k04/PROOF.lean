import PyProof.Rows.All
import Wide.All
import OpenK.AllK
import Wide.FinOn
import KE.KStateDown
import HandS.Base
import HandS.Call
import HandS.Exc
import HandS.Defaults
import HandS.Words
import HandS.Head0
import HandS.Head1
import HandS.Head2
import HandS.HeadHook1
import HandS.HeadHook2
import HandS.HeadHook3
import HandS.List
import HandS.Comp
import KE.KeyNested
import HandS.TupAny
import HandS.Wide
import HandS.Style
import HandS.IsInst
import HandS.Flow
import HandS.WordsExc
import HandS.CallSlots
import HandS.EndBits
import HandS.Iter
import HandS.NoneIn
import HandS.More
import PyProof.ReprReads
import HandS.Zip
import KE.BitLaws
import HandS.TupMul
import HandS.Deep
import HandS.Sort
import HandS.CallRecv
import HandS.Dict
import HandS.Small
import HandS.Conv
import HandS.TupLen
import KE.KDictCopyH
import HandS.SortRule
import HandS.SortInts
import HandS.OwnEq
import HandS.ExcIs
import HandS.ExcOwn
import KE.KExcIs
import HandS.ExcInit
import HandS.ExcField
import HandS.Text
import HandS.Replace
import HandS.SetFor
import HandS.Strs
import PyProof.InstEq
import KE.KDictSum
import HandS.SortOrd
import HandS.ExcValue
import KE.KAssignIn
import HandS.SortKw
import HandS.CallLocal
import HandS.Flt
import HandS.DeepEq
import HandS.WordsDict
import HandS.WideBits
import KE.KDictZip
import PyProof.Rows.RuleB_and
import KE.DataCmp
import PyProof.MinMaxWalk
import OpenK.KWalk
import PyProof.EqKinds
import KE.KDictPairs
import KE.KEqNest
import PyProof.ExcBaseAll.LookupError
import HandS.ExcBuiltin
import HandS.TupSets
import PySem.Challenge.RW_eachalone_k04_refusals
set_option Elab.async false
set_option linter.all false
set_option maxRecDepth 100000
set_option maxHeartbeats 8000000
section
namespace Vi
open PySem PySem.Spec PyProof.Rows L2 He
abbrev AlV : Type := Bool × List FnW × List (Option (List (Option (Str × Int))))
def obsV (ck : List (PySem.W.Frag → Bool)) (fn : List DefD) (dx : List (Str × List Str)) (K : PySem.W.Frag) : AlV := ((ck.all fun f => f K) && fn.all fun d => d.ok K, fn.map fun d => fnW K d.at_, dx.map fun p => dicW K (ga K p.1))
def valHd (fn : List DefD) (dx : List (Str × List Str)) (w : World) : AlV := (true, fn.map DefD.val, dx.map fun p => some (keysIn w.params p.2))
def obsVL (as : List Addr) (ck : List (PySem.W.Frag → Bool)) (fn : List DefD) (dx : List (Str × List Str)) (g : Addr → Option Obj) : AlV := obsV ck fn dx (frG g as)
def hookVL (as : List Addr) (ck : List (PySem.W.Frag → Bool)) (fn : List DefD) (dx : List (Str × List Str)) : PySem.W.Hook where
  α := AlV
  obs := fun s => obsVL as ck fn dx s.heap.get?
  val := fun w => valHd fn dx w
  says := fun w h => ∃ K : PySem.W.Frag, K.In h ∧ obsV ck fn dx K = valHd fn dx w
  of := fun _ _ e => ⟨_, frG_in, e⟩
  keeps := fun _ _ _ ⟨K, hK, c⟩ k => ⟨K, PySem.W.Frag.In.keeps hK k, c⟩
theorem obsVL_eq {as : List Addr} {ck : List (PySem.W.Frag → Bool)} {fn : List DefD} {dx : List (Str × List Str)} {g : Addr → Option Obj} {s : Shared} (h : ∀ a, g a = s.heap.get? a) : obsVL as ck fn dx g = (hookVL as ck fn dx).obs s := by
  have e : g = s.heap.get? := funext h
  rw [e] <;> rfl
def ckC (C : PySem.W.Frag → Addr) (m : Str) (b : String) (K : PySem.W.Frag) : Bool := match PySem.W.findCls K (.ref (C K)) (.type "type") m with
  | some (.val (.builtin n)) => decide (n = b)
  | _ => false
def ckX (C : Addr) (chain : List Value) (newId : String) (K : PySem.W.Frag) : Bool := match K.lookup C with
  | some ⟨.type "type", _, .cls cd, sl⟩ => (match cd.mro, sl.toList with
    | .ref C' :: bm, [_, _, _, _, some (.builtin n), _] => C' == C && (n == newId && (!cd.hasDel && (cd.hasDict && decide (bm = chain))))
    | _, _ => false)
  | _ => false
end Vi
end
section
namespace Lw
open PySem PySem.Spec PyProof.Rows L2 Vi He
def hTop (i : Nat) : Stmt := PySem.Challenge.pw_eachalone_k04_refusals.main.body.getD i (.Pass ⟨0, 0, 0, 0⟩)
def hIn (s : Stmt) (i : Nat) : Stmt := match s with
  | .ClassDef (body := b) .. => b.getD i (.Pass ⟨0, 0, 0, 0⟩)
  | _ => .Pass ⟨0, 0, 0, 0⟩
abbrev hsx_NoName : Stmt := hIn (hTop 2) 0
abbrev hsx_NoField : Stmt := hIn (hTop 3) 0
abbrev hsx_NoCase : Stmt := hIn (hTop 4) 0
abbrev hsx_NoBook : Stmt := hIn (hTop 5) 0
abbrev hsx_NoText : Stmt := hIn (hTop 6) 0
abbrev hsx_TooMany : Stmt := hIn (hTop 7) 0
abbrev hsx_NotOnce : Stmt := hIn (hTop 8) 0
abbrev hsx_NoProgram : Stmt := hIn (hTop 9) 0
abbrev hs_law_pool : Stmt := hTop 20
abbrev hs_law_take : Stmt := hTop 21
abbrev hs_law_made : Stmt := hTop 22
abbrev hs_law_part : Stmt := hTop 23
abbrev hs_law_sorts : Stmt := hTop 24
abbrev hs_law_kinds : Stmt := hTop 25
abbrev hs_law_kept : Stmt := hTop 26
abbrev hs_law : Stmt := hTop 27
abbrev hR : PySem.W.OpenRow := PySem.W.OpenLaw.row PySem.Challenge.rw_eachalone_k04_refusals
def hNames0 : List Str := ["AloneError",
  "NoName",
  "NoField",
  "NoCase",
  "NoBook",
  "NoText",
  "TooMany",
  "NotOnce",
  "NoProgram",
  "NoRow",
  "NoWish",
  "NoLeaf",
  "NoWord",
  "NoNumbers",
  "NoWhen",
  "NoChange",
  "NoLine",
  "NoKeeper",
  "_law_pool",
  "_law_take"]
def hNames1 : List Str := ["_law_made",
  "_law_part",
  "_law_sorts",
  "_law_kinds",
  "_law_kept"]
def hNames : List Str := hNames0 ++ hNames1
def hCk0 : List (PySem.W.Frag → Bool) := [fun K => decide (PySem.W.specialIn K (.builtin "object.__class__") "__get__" = some (some (.builtin "getset_descriptor.__get__"))),
  fun K => decide (PySem.W.takesIn K (.builtin "object.__class__") = some true),
  fun K => decide (PySem.W.nsIn K mainGlobals "AloneError" = some (some (.ref (ga K "AloneError")))),
  fun K => decide (PySem.W.subIn K (.ref (ga K "AloneError")) (.type "BaseException") = some true),
  fun K => decide (PySem.W.typeIn K (.ref (ga K "AloneError")) = some (.type "type")),
  fun K => decide (PySem.W.specialIn K (.ref (ga K "AloneError")) "__getattribute__" = some (some (.builtin "type.__getattribute__"))),
  fun K => decide (PySem.W.readsIn K (ga K "AloneError") (.type "type") = true),
  ckC (fun K => (ga K "AloneError")) "__init__" "ValueError.__init__",
  fun K => decide (PySem.W.findIn K (.ref (ga K "AloneError")) "__getattribute__" = some (some (.builtin "BaseException.__getattribute__"))),
  fun K => decide (PySem.W.findIn K (.ref (ga K "AloneError")) "__getattr__" = some none),
  fun K => decide (PySem.W.hasDictIn K (ga K "AloneError") = true),
  fun K => decide (PySem.W.findIn K (.ref (ga K "AloneError")) "__class__" = some (some (.builtin "object.__class__"))),
  fun K => decide (PySem.W.mroIn K (ga K "AloneError") (.type "object") = some true),
  fun K => decide (PySem.W.nsIn K mainGlobals "NoName" = some (some (.ref (ga K "NoName")))),
  fun K => decide (PySem.W.subIn K (.ref (ga K "NoName")) (.type "BaseException") = some true),
  fun K => decide (PySem.W.typeIn K (.ref (ga K "NoName")) = some (.type "type")),
  fun K => ckX (ga K "NoName") [.type "KeyError", .type "LookupError", .type "Exception", .type "BaseException", .type "object"] "LookupError.__new__" K,
  fun K => decide (PySem.W.findIn K (.ref (ga K "NoName")) "__setattr__" = some (some (.builtin "object.__setattr__"))),
  fun K => decide (PySem.W.keepIn K (.ref (ga K "NoName")) = true),
  fun K => decide (PySem.W.findIn K (.ref (ga K "NoName")) "__init__" = some (some (.ref (ma K (ga K "NoName") "__init__"))))]
def hCk1 : List (PySem.W.Frag → Bool) := [fun K => decide (PySem.W.typeIn K (.ref (ma K (ga K "NoName") "__init__")) = some (.type "function")),
  fun K => decide (PySem.W.findIn K (.ref (ga K "NoName")) "name" = some none),
  fun K => decide (PySem.W.findIn K (.ref (ga K "NoName")) "__getattribute__" = some (some (.builtin "BaseException.__getattribute__"))),
  fun K => decide (PySem.W.findIn K (.ref (ga K "NoName")) "__getattr__" = some none),
  fun K => decide (PySem.W.hasDictIn K (ga K "NoName") = true),
  fun K => decide (PySem.W.findIn K (.ref (ga K "NoName")) "__class__" = some (some (.builtin "object.__class__"))),
  fun K => decide (PySem.W.mroIn K (ga K "NoName") (.type "object") = some true),
  fun K => decide (PySem.W.nsIn K mainGlobals "NoField" = some (some (.ref (ga K "NoField")))),
  fun K => decide (PySem.W.subIn K (.ref (ga K "NoField")) (.type "BaseException") = some true),
  fun K => decide (PySem.W.typeIn K (.ref (ga K "NoField")) = some (.type "type")),
  fun K => ckX (ga K "NoField") [.ref (ga K "AloneError"), .type "ValueError", .type "Exception", .type "BaseException", .type "object"] "ValueError.__new__" K,
  fun K => decide (PySem.W.findIn K (.ref (ga K "NoField")) "__setattr__" = some (some (.builtin "object.__setattr__"))),
  fun K => decide (PySem.W.keepIn K (.ref (ga K "NoField")) = true),
  fun K => decide (PySem.W.findIn K (.ref (ga K "NoField")) "__init__" = some (some (.ref (ma K (ga K "NoField") "__init__")))),
  fun K => decide (PySem.W.typeIn K (.ref (ma K (ga K "NoField") "__init__")) = some (.type "function")),
  fun K => decide (PySem.W.findIn K (.ref (ga K "NoField")) "part" = some none),
  fun K => decide (PySem.W.findIn K (.ref (ga K "NoField")) "place" = some none),
  fun K => decide (PySem.W.findIn K (.ref (ga K "NoField")) "__getattribute__" = some (some (.builtin "BaseException.__getattribute__"))),
  fun K => decide (PySem.W.findIn K (.ref (ga K "NoField")) "__getattr__" = some none),
  fun K => decide (PySem.W.hasDictIn K (ga K "NoField") = true)]
def hCk2 : List (PySem.W.Frag → Bool) := [fun K => decide (PySem.W.findIn K (.ref (ga K "NoField")) "__class__" = some (some (.builtin "object.__class__"))),
  fun K => decide (PySem.W.mroIn K (ga K "NoField") (.type "object") = some true),
  fun K => decide (PySem.W.nsIn K mainGlobals "NoCase" = some (some (.ref (ga K "NoCase")))),
  fun K => decide (PySem.W.subIn K (.ref (ga K "NoCase")) (.type "BaseException") = some true),
  fun K => decide (PySem.W.typeIn K (.ref (ga K "NoCase")) = some (.type "type")),
  fun K => ckX (ga K "NoCase") [.ref (ga K "AloneError"), .type "ValueError", .type "Exception", .type "BaseException", .type "object"] "ValueError.__new__" K,
  fun K => decide (PySem.W.findIn K (.ref (ga K "NoCase")) "__setattr__" = some (some (.builtin "object.__setattr__"))),
  fun K => decide (PySem.W.keepIn K (.ref (ga K "NoCase")) = true),
  fun K => decide (PySem.W.findIn K (.ref (ga K "NoCase")) "__init__" = some (some (.ref (ma K (ga K "NoCase") "__init__")))),
  fun K => decide (PySem.W.typeIn K (.ref (ma K (ga K "NoCase") "__init__")) = some (.type "function")),
  fun K => decide (PySem.W.findIn K (.ref (ga K "NoCase")) "part" = some none),
  fun K => decide (PySem.W.findIn K (.ref (ga K "NoCase")) "place" = some none),
  fun K => decide (PySem.W.findIn K (.ref (ga K "NoCase")) "__getattribute__" = some (some (.builtin "BaseException.__getattribute__"))),
  fun K => decide (PySem.W.findIn K (.ref (ga K "NoCase")) "__getattr__" = some none),
  fun K => decide (PySem.W.hasDictIn K (ga K "NoCase") = true),
  fun K => decide (PySem.W.findIn K (.ref (ga K "NoCase")) "__class__" = some (some (.builtin "object.__class__"))),
  fun K => decide (PySem.W.mroIn K (ga K "NoCase") (.type "object") = some true),
  fun K => decide (PySem.W.nsIn K mainGlobals "NoBook" = some (some (.ref (ga K "NoBook")))),
  fun K => decide (PySem.W.subIn K (.ref (ga K "NoBook")) (.type "BaseException") = some true),
  fun K => decide (PySem.W.typeIn K (.ref (ga K "NoBook")) = some (.type "type"))]
def hCk3 : List (PySem.W.Frag → Bool) := [fun K => ckX (ga K "NoBook") [.ref (ga K "AloneError"), .type "ValueError", .type "Exception", .type "BaseException", .type "object"] "ValueError.__new__" K,
  fun K => decide (PySem.W.findIn K (.ref (ga K "NoBook")) "__setattr__" = some (some (.builtin "object.__setattr__"))),
  fun K => decide (PySem.W.keepIn K (.ref (ga K "NoBook")) = true),
  fun K => decide (PySem.W.findIn K (.ref (ga K "NoBook")) "__init__" = some (some (.ref (ma K (ga K "NoBook") "__init__")))),
  fun K => decide (PySem.W.typeIn K (.ref (ma K (ga K "NoBook") "__init__")) = some (.type "function")),
  fun K => decide (PySem.W.findIn K (.ref (ga K "NoBook")) "place" = some none),
  fun K => decide (PySem.W.findIn K (.ref (ga K "NoBook")) "__getattribute__" = some (some (.builtin "BaseException.__getattribute__"))),
  fun K => decide (PySem.W.findIn K (.ref (ga K "NoBook")) "__getattr__" = some none),
  fun K => decide (PySem.W.hasDictIn K (ga K "NoBook") = true),
  fun K => decide (PySem.W.findIn K (.ref (ga K "NoBook")) "__class__" = some (some (.builtin "object.__class__"))),
  fun K => decide (PySem.W.mroIn K (ga K "NoBook") (.type "object") = some true),
  fun K => decide (PySem.W.nsIn K mainGlobals "NoText" = some (some (.ref (ga K "NoText")))),
  fun K => decide (PySem.W.subIn K (.ref (ga K "NoText")) (.type "BaseException") = some true),
  fun K => decide (PySem.W.typeIn K (.ref (ga K "NoText")) = some (.type "type")),
  fun K => ckX (ga K "NoText") [.ref (ga K "AloneError"), .type "ValueError", .type "Exception", .type "BaseException", .type "object"] "ValueError.__new__" K,
  fun K => decide (PySem.W.findIn K (.ref (ga K "NoText")) "__setattr__" = some (some (.builtin "object.__setattr__"))),
  fun K => decide (PySem.W.keepIn K (.ref (ga K "NoText")) = true),
  fun K => decide (PySem.W.findIn K (.ref (ga K "NoText")) "__init__" = some (some (.ref (ma K (ga K "NoText") "__init__")))),
  fun K => decide (PySem.W.typeIn K (.ref (ma K (ga K "NoText") "__init__")) = some (.type "function")),
  fun K => decide (PySem.W.findIn K (.ref (ga K "NoText")) "at" = some none)]
def hCk4 : List (PySem.W.Frag → Bool) := [fun K => decide (PySem.W.findIn K (.ref (ga K "NoText")) "__getattribute__" = some (some (.builtin "BaseException.__getattribute__"))),
  fun K => decide (PySem.W.findIn K (.ref (ga K "NoText")) "__getattr__" = some none),
  fun K => decide (PySem.W.hasDictIn K (ga K "NoText") = true),
  fun K => decide (PySem.W.findIn K (.ref (ga K "NoText")) "__class__" = some (some (.builtin "object.__class__"))),
  fun K => decide (PySem.W.mroIn K (ga K "NoText") (.type "object") = some true),
  fun K => decide (PySem.W.nsIn K mainGlobals "TooMany" = some (some (.ref (ga K "TooMany")))),
  fun K => decide (PySem.W.subIn K (.ref (ga K "TooMany")) (.type "BaseException") = some true),
  fun K => decide (PySem.W.typeIn K (.ref (ga K "TooMany")) = some (.type "type")),
  fun K => ckX (ga K "TooMany") [.ref (ga K "AloneError"), .type "ValueError", .type "Exception", .type "BaseException", .type "object"] "ValueError.__new__" K,
  fun K => decide (PySem.W.findIn K (.ref (ga K "TooMany")) "__setattr__" = some (some (.builtin "object.__setattr__"))),
  fun K => decide (PySem.W.keepIn K (.ref (ga K "TooMany")) = true),
  fun K => decide (PySem.W.findIn K (.ref (ga K "TooMany")) "__init__" = some (some (.ref (ma K (ga K "TooMany") "__init__")))),
  fun K => decide (PySem.W.typeIn K (.ref (ma K (ga K "TooMany") "__init__")) = some (.type "function")),
  fun K => decide (PySem.W.findIn K (.ref (ga K "TooMany")) "size" = some none),
  fun K => decide (PySem.W.findIn K (.ref (ga K "TooMany")) "__getattribute__" = some (some (.builtin "BaseException.__getattribute__"))),
  fun K => decide (PySem.W.findIn K (.ref (ga K "TooMany")) "__getattr__" = some none),
  fun K => decide (PySem.W.hasDictIn K (ga K "TooMany") = true),
  fun K => decide (PySem.W.findIn K (.ref (ga K "TooMany")) "__class__" = some (some (.builtin "object.__class__"))),
  fun K => decide (PySem.W.mroIn K (ga K "TooMany") (.type "object") = some true),
  fun K => decide (PySem.W.nsIn K mainGlobals "NotOnce" = some (some (.ref (ga K "NotOnce"))))]
def hCk5 : List (PySem.W.Frag → Bool) := [fun K => decide (PySem.W.subIn K (.ref (ga K "NotOnce")) (.type "BaseException") = some true),
  fun K => decide (PySem.W.typeIn K (.ref (ga K "NotOnce")) = some (.type "type")),
  fun K => ckX (ga K "NotOnce") [.ref (ga K "AloneError"), .type "ValueError", .type "Exception", .type "BaseException", .type "object"] "ValueError.__new__" K,
  fun K => decide (PySem.W.findIn K (.ref (ga K "NotOnce")) "__setattr__" = some (some (.builtin "object.__setattr__"))),
  fun K => decide (PySem.W.keepIn K (.ref (ga K "NotOnce")) = true),
  fun K => decide (PySem.W.findIn K (.ref (ga K "NotOnce")) "__init__" = some (some (.ref (ma K (ga K "NotOnce") "__init__")))),
  fun K => decide (PySem.W.typeIn K (.ref (ma K (ga K "NotOnce") "__init__")) = some (.type "function")),
  fun K => decide (PySem.W.findIn K (.ref (ga K "NotOnce")) "wish" = some none),
  fun K => decide (PySem.W.findIn K (.ref (ga K "NotOnce")) "__getattribute__" = some (some (.builtin "BaseException.__getattribute__"))),
  fun K => decide (PySem.W.findIn K (.ref (ga K "NotOnce")) "__getattr__" = some none),
  fun K => decide (PySem.W.hasDictIn K (ga K "NotOnce") = true),
  fun K => decide (PySem.W.findIn K (.ref (ga K "NotOnce")) "__class__" = some (some (.builtin "object.__class__"))),
  fun K => decide (PySem.W.mroIn K (ga K "NotOnce") (.type "object") = some true),
  fun K => decide (PySem.W.nsIn K mainGlobals "NoProgram" = some (some (.ref (ga K "NoProgram")))),
  fun K => decide (PySem.W.subIn K (.ref (ga K "NoProgram")) (.type "BaseException") = some true),
  fun K => decide (PySem.W.typeIn K (.ref (ga K "NoProgram")) = some (.type "type")),
  fun K => ckX (ga K "NoProgram") [.ref (ga K "AloneError"), .type "ValueError", .type "Exception", .type "BaseException", .type "object"] "ValueError.__new__" K,
  fun K => decide (PySem.W.findIn K (.ref (ga K "NoProgram")) "__setattr__" = some (some (.builtin "object.__setattr__"))),
  fun K => decide (PySem.W.keepIn K (.ref (ga K "NoProgram")) = true),
  fun K => decide (PySem.W.findIn K (.ref (ga K "NoProgram")) "__init__" = some (some (.ref (ma K (ga K "NoProgram") "__init__"))))]
def hCk6 : List (PySem.W.Frag → Bool) := [fun K => decide (PySem.W.typeIn K (.ref (ma K (ga K "NoProgram") "__init__")) = some (.type "function")),
  fun K => decide (PySem.W.findIn K (.ref (ga K "NoProgram")) "part" = some none),
  fun K => decide (PySem.W.findIn K (.ref (ga K "NoProgram")) "__getattribute__" = some (some (.builtin "BaseException.__getattribute__"))),
  fun K => decide (PySem.W.findIn K (.ref (ga K "NoProgram")) "__getattr__" = some none),
  fun K => decide (PySem.W.hasDictIn K (ga K "NoProgram") = true),
  fun K => decide (PySem.W.findIn K (.ref (ga K "NoProgram")) "__class__" = some (some (.builtin "object.__class__"))),
  fun K => decide (PySem.W.mroIn K (ga K "NoProgram") (.type "object") = some true),
  fun K => decide (PySem.W.nsIn K mainGlobals "NoRow" = some (some (.ref (ga K "NoRow")))),
  fun K => decide (PySem.W.subIn K (.ref (ga K "NoRow")) (.type "BaseException") = some true),
  fun K => decide (PySem.W.typeIn K (.ref (ga K "NoRow")) = some (.type "type")),
  fun K => decide (PySem.W.excIn K (ga K "NoRow") [.type "ValueError", .type "Exception", .type "BaseException", .type "object"] "ValueError.__new__" = true),
  fun K => decide (PySem.W.keepIn K (.ref (ga K "NoRow")) = true),
  fun K => decide (PySem.W.findIn K (.ref (ga K "NoRow")) "__getattribute__" = some (some (.builtin "BaseException.__getattribute__"))),
  fun K => decide (PySem.W.findIn K (.ref (ga K "NoRow")) "__getattr__" = some none),
  fun K => decide (PySem.W.hasDictIn K (ga K "NoRow") = true),
  fun K => decide (PySem.W.findIn K (.ref (ga K "NoRow")) "__class__" = some (some (.builtin "object.__class__"))),
  fun K => decide (PySem.W.mroIn K (ga K "NoRow") (.type "object") = some true),
  fun K => decide (PySem.W.nsIn K mainGlobals "NoWish" = some (some (.ref (ga K "NoWish")))),
  fun K => decide (PySem.W.subIn K (.ref (ga K "NoWish")) (.type "BaseException") = some true),
  fun K => decide (PySem.W.typeIn K (.ref (ga K "NoWish")) = some (.type "type"))]
def hCk7 : List (PySem.W.Frag → Bool) := [fun K => decide (PySem.W.excIn K (ga K "NoWish") [.type "ValueError", .type "Exception", .type "BaseException", .type "object"] "ValueError.__new__" = true),
  fun K => decide (PySem.W.keepIn K (.ref (ga K "NoWish")) = true),
  fun K => decide (PySem.W.findIn K (.ref (ga K "NoWish")) "__getattribute__" = some (some (.builtin "BaseException.__getattribute__"))),
  fun K => decide (PySem.W.findIn K (.ref (ga K "NoWish")) "__getattr__" = some none),
  fun K => decide (PySem.W.hasDictIn K (ga K "NoWish") = true),
  fun K => decide (PySem.W.findIn K (.ref (ga K "NoWish")) "__class__" = some (some (.builtin "object.__class__"))),
  fun K => decide (PySem.W.mroIn K (ga K "NoWish") (.type "object") = some true),
  fun K => decide (PySem.W.nsIn K mainGlobals "NoLeaf" = some (some (.ref (ga K "NoLeaf")))),
  fun K => decide (PySem.W.subIn K (.ref (ga K "NoLeaf")) (.type "BaseException") = some true),
  fun K => decide (PySem.W.typeIn K (.ref (ga K "NoLeaf")) = some (.type "type")),
  fun K => decide (PySem.W.excIn K (ga K "NoLeaf") [.type "ValueError", .type "Exception", .type "BaseException", .type "object"] "ValueError.__new__" = true),
  fun K => decide (PySem.W.keepIn K (.ref (ga K "NoLeaf")) = true),
  fun K => decide (PySem.W.findIn K (.ref (ga K "NoLeaf")) "__getattribute__" = some (some (.builtin "BaseException.__getattribute__"))),
  fun K => decide (PySem.W.findIn K (.ref (ga K "NoLeaf")) "__getattr__" = some none),
  fun K => decide (PySem.W.hasDictIn K (ga K "NoLeaf") = true),
  fun K => decide (PySem.W.findIn K (.ref (ga K "NoLeaf")) "__class__" = some (some (.builtin "object.__class__"))),
  fun K => decide (PySem.W.mroIn K (ga K "NoLeaf") (.type "object") = some true),
  fun K => decide (PySem.W.nsIn K mainGlobals "NoWord" = some (some (.ref (ga K "NoWord")))),
  fun K => decide (PySem.W.subIn K (.ref (ga K "NoWord")) (.type "BaseException") = some true),
  fun K => decide (PySem.W.typeIn K (.ref (ga K "NoWord")) = some (.type "type"))]
def hCk8 : List (PySem.W.Frag → Bool) := [fun K => decide (PySem.W.excIn K (ga K "NoWord") [.type "ValueError", .type "Exception", .type "BaseException", .type "object"] "ValueError.__new__" = true),
  fun K => decide (PySem.W.keepIn K (.ref (ga K "NoWord")) = true),
  fun K => decide (PySem.W.findIn K (.ref (ga K "NoWord")) "__getattribute__" = some (some (.builtin "BaseException.__getattribute__"))),
  fun K => decide (PySem.W.findIn K (.ref (ga K "NoWord")) "__getattr__" = some none),
  fun K => decide (PySem.W.hasDictIn K (ga K "NoWord") = true),
  fun K => decide (PySem.W.findIn K (.ref (ga K "NoWord")) "__class__" = some (some (.builtin "object.__class__"))),
  fun K => decide (PySem.W.mroIn K (ga K "NoWord") (.type "object") = some true),
  fun K => decide (PySem.W.nsIn K mainGlobals "NoNumbers" = some (some (.ref (ga K "NoNumbers")))),
  fun K => decide (PySem.W.subIn K (.ref (ga K "NoNumbers")) (.type "BaseException") = some true),
  fun K => decide (PySem.W.typeIn K (.ref (ga K "NoNumbers")) = some (.type "type")),
  fun K => decide (PySem.W.excIn K (ga K "NoNumbers") [.type "ValueError", .type "Exception", .type "BaseException", .type "object"] "ValueError.__new__" = true),
  fun K => decide (PySem.W.keepIn K (.ref (ga K "NoNumbers")) = true),
  fun K => decide (PySem.W.findIn K (.ref (ga K "NoNumbers")) "__getattribute__" = some (some (.builtin "BaseException.__getattribute__"))),
  fun K => decide (PySem.W.findIn K (.ref (ga K "NoNumbers")) "__getattr__" = some none),
  fun K => decide (PySem.W.hasDictIn K (ga K "NoNumbers") = true),
  fun K => decide (PySem.W.findIn K (.ref (ga K "NoNumbers")) "__class__" = some (some (.builtin "object.__class__"))),
  fun K => decide (PySem.W.mroIn K (ga K "NoNumbers") (.type "object") = some true),
  fun K => decide (PySem.W.nsIn K mainGlobals "NoWhen" = some (some (.ref (ga K "NoWhen")))),
  fun K => decide (PySem.W.subIn K (.ref (ga K "NoWhen")) (.type "BaseException") = some true),
  fun K => decide (PySem.W.typeIn K (.ref (ga K "NoWhen")) = some (.type "type"))]
def hCk9 : List (PySem.W.Frag → Bool) := [fun K => decide (PySem.W.excIn K (ga K "NoWhen") [.type "ValueError", .type "Exception", .type "BaseException", .type "object"] "ValueError.__new__" = true),
  fun K => decide (PySem.W.keepIn K (.ref (ga K "NoWhen")) = true),
  fun K => decide (PySem.W.findIn K (.ref (ga K "NoWhen")) "__getattribute__" = some (some (.builtin "BaseException.__getattribute__"))),
  fun K => decide (PySem.W.findIn K (.ref (ga K "NoWhen")) "__getattr__" = some none),
  fun K => decide (PySem.W.hasDictIn K (ga K "NoWhen") = true),
  fun K => decide (PySem.W.findIn K (.ref (ga K "NoWhen")) "__class__" = some (some (.builtin "object.__class__"))),
  fun K => decide (PySem.W.mroIn K (ga K "NoWhen") (.type "object") = some true),
  fun K => decide (PySem.W.nsIn K mainGlobals "NoChange" = some (some (.ref (ga K "NoChange")))),
  fun K => decide (PySem.W.subIn K (.ref (ga K "NoChange")) (.type "BaseException") = some true),
  fun K => decide (PySem.W.typeIn K (.ref (ga K "NoChange")) = some (.type "type")),
  fun K => decide (PySem.W.excIn K (ga K "NoChange") [.type "ValueError", .type "Exception", .type "BaseException", .type "object"] "ValueError.__new__" = true),
  fun K => decide (PySem.W.keepIn K (.ref (ga K "NoChange")) = true),
  fun K => decide (PySem.W.findIn K (.ref (ga K "NoChange")) "__getattribute__" = some (some (.builtin "BaseException.__getattribute__"))),
  fun K => decide (PySem.W.findIn K (.ref (ga K "NoChange")) "__getattr__" = some none),
  fun K => decide (PySem.W.hasDictIn K (ga K "NoChange") = true),
  fun K => decide (PySem.W.findIn K (.ref (ga K "NoChange")) "__class__" = some (some (.builtin "object.__class__"))),
  fun K => decide (PySem.W.mroIn K (ga K "NoChange") (.type "object") = some true),
  fun K => decide (PySem.W.nsIn K mainGlobals "NoLine" = some (some (.ref (ga K "NoLine")))),
  fun K => decide (PySem.W.subIn K (.ref (ga K "NoLine")) (.type "BaseException") = some true),
  fun K => decide (PySem.W.typeIn K (.ref (ga K "NoLine")) = some (.type "type"))]
def hCk10 : List (PySem.W.Frag → Bool) := [fun K => decide (PySem.W.excIn K (ga K "NoLine") [.type "ValueError", .type "Exception", .type "BaseException", .type "object"] "ValueError.__new__" = true),
  fun K => decide (PySem.W.keepIn K (.ref (ga K "NoLine")) = true),
  fun K => decide (PySem.W.findIn K (.ref (ga K "NoLine")) "__getattribute__" = some (some (.builtin "BaseException.__getattribute__"))),
  fun K => decide (PySem.W.findIn K (.ref (ga K "NoLine")) "__getattr__" = some none),
  fun K => decide (PySem.W.hasDictIn K (ga K "NoLine") = true),
  fun K => decide (PySem.W.findIn K (.ref (ga K "NoLine")) "__class__" = some (some (.builtin "object.__class__"))),
  fun K => decide (PySem.W.mroIn K (ga K "NoLine") (.type "object") = some true),
  fun K => decide (PySem.W.nsIn K mainGlobals "NoKeeper" = some (some (.ref (ga K "NoKeeper")))),
  fun K => decide (PySem.W.subIn K (.ref (ga K "NoKeeper")) (.type "BaseException") = some true),
  fun K => decide (PySem.W.typeIn K (.ref (ga K "NoKeeper")) = some (.type "type")),
  fun K => decide (PySem.W.excIn K (ga K "NoKeeper") [.type "LookupError", .type "Exception", .type "BaseException", .type "object"] "LookupError.__new__" = true),
  fun K => decide (PySem.W.keepIn K (.ref (ga K "NoKeeper")) = true),
  fun K => decide (PySem.W.findIn K (.ref (ga K "NoKeeper")) "__getattribute__" = some (some (.builtin "BaseException.__getattribute__"))),
  fun K => decide (PySem.W.findIn K (.ref (ga K "NoKeeper")) "__getattr__" = some none),
  fun K => decide (PySem.W.hasDictIn K (ga K "NoKeeper") = true),
  fun K => decide (PySem.W.findIn K (.ref (ga K "NoKeeper")) "__class__" = some (some (.builtin "object.__class__"))),
  fun K => decide (PySem.W.mroIn K (ga K "NoKeeper") (.type "object") = some true),
  fun K => decide (PySem.W.subIn K (.ref (ga K "NoName")) (.ref (ga K "NoName")) = some true),
  fun K => decide (PySem.W.subIn K (.ref (ga K "NoName")) (.ref (ga K "AloneError")) = some false),
  fun K => decide (PySem.W.subIn K (.ref (ga K "NoName")) (.ref (ga K "NoField")) = some false)]
def hCk11 : List (PySem.W.Frag → Bool) := [fun K => decide (PySem.W.subIn K (.ref (ga K "NoName")) (.ref (ga K "NoCase")) = some false),
  fun K => decide (PySem.W.subIn K (.ref (ga K "NoName")) (.ref (ga K "NoBook")) = some false),
  fun K => decide (PySem.W.subIn K (.ref (ga K "NoName")) (.ref (ga K "NoText")) = some false),
  fun K => decide (PySem.W.subIn K (.ref (ga K "NoName")) (.ref (ga K "TooMany")) = some false),
  fun K => decide (PySem.W.subIn K (.ref (ga K "NoName")) (.ref (ga K "NotOnce")) = some false),
  fun K => decide (PySem.W.subIn K (.ref (ga K "NoName")) (.ref (ga K "NoProgram")) = some false),
  fun K => decide (PySem.W.subIn K (.ref (ga K "NoName")) (.ref (ga K "NoRow")) = some false),
  fun K => decide (PySem.W.subIn K (.ref (ga K "NoName")) (.ref (ga K "NoWish")) = some false),
  fun K => decide (PySem.W.subIn K (.ref (ga K "NoName")) (.ref (ga K "NoLeaf")) = some false),
  fun K => decide (PySem.W.subIn K (.ref (ga K "NoName")) (.ref (ga K "NoWord")) = some false),
  fun K => decide (PySem.W.subIn K (.ref (ga K "NoName")) (.ref (ga K "NoNumbers")) = some false),
  fun K => decide (PySem.W.subIn K (.ref (ga K "NoName")) (.ref (ga K "NoWhen")) = some false),
  fun K => decide (PySem.W.subIn K (.ref (ga K "NoName")) (.ref (ga K "NoChange")) = some false),
  fun K => decide (PySem.W.subIn K (.ref (ga K "NoName")) (.ref (ga K "NoLine")) = some false),
  fun K => decide (PySem.W.subIn K (.ref (ga K "NoName")) (.ref (ga K "NoKeeper")) = some false),
  fun K => decide (PySem.W.subIn K (.ref (ga K "NoName")) (.type "KeyError") = some true),
  fun K => decide (PySem.W.subIn K (.ref (ga K "NoName")) (.type "LookupError") = some true),
  fun K => decide (PySem.W.subIn K (.ref (ga K "NoName")) (.type "ValueError") = some false),
  fun K => decide (PySem.W.subIn K (.ref (ga K "NoField")) (.ref (ga K "NoField")) = some true),
  fun K => decide (PySem.W.subIn K (.ref (ga K "NoField")) (.ref (ga K "AloneError")) = some true)]
def hCk12 : List (PySem.W.Frag → Bool) := [fun K => decide (PySem.W.subIn K (.ref (ga K "NoField")) (.ref (ga K "NoName")) = some false),
  fun K => decide (PySem.W.subIn K (.ref (ga K "NoField")) (.ref (ga K "NoCase")) = some false),
  fun K => decide (PySem.W.subIn K (.ref (ga K "NoField")) (.ref (ga K "NoBook")) = some false),
  fun K => decide (PySem.W.subIn K (.ref (ga K "NoField")) (.ref (ga K "NoText")) = some false),
  fun K => decide (PySem.W.subIn K (.ref (ga K "NoField")) (.ref (ga K "TooMany")) = some false),
  fun K => decide (PySem.W.subIn K (.ref (ga K "NoField")) (.ref (ga K "NotOnce")) = some false),
  fun K => decide (PySem.W.subIn K (.ref (ga K "NoField")) (.ref (ga K "NoProgram")) = some false),
  fun K => decide (PySem.W.subIn K (.ref (ga K "NoField")) (.ref (ga K "NoRow")) = some false),
  fun K => decide (PySem.W.subIn K (.ref (ga K "NoField")) (.ref (ga K "NoWish")) = some false),
  fun K => decide (PySem.W.subIn K (.ref (ga K "NoField")) (.ref (ga K "NoLeaf")) = some false),
  fun K => decide (PySem.W.subIn K (.ref (ga K "NoField")) (.ref (ga K "NoWord")) = some false),
  fun K => decide (PySem.W.subIn K (.ref (ga K "NoField")) (.ref (ga K "NoNumbers")) = some false),
  fun K => decide (PySem.W.subIn K (.ref (ga K "NoField")) (.ref (ga K "NoWhen")) = some false),
  fun K => decide (PySem.W.subIn K (.ref (ga K "NoField")) (.ref (ga K "NoChange")) = some false),
  fun K => decide (PySem.W.subIn K (.ref (ga K "NoField")) (.ref (ga K "NoLine")) = some false),
  fun K => decide (PySem.W.subIn K (.ref (ga K "NoField")) (.ref (ga K "NoKeeper")) = some false),
  fun K => decide (PySem.W.subIn K (.ref (ga K "NoField")) (.type "KeyError") = some false),
  fun K => decide (PySem.W.subIn K (.ref (ga K "NoField")) (.type "LookupError") = some false),
  fun K => decide (PySem.W.subIn K (.ref (ga K "NoField")) (.type "ValueError") = some true),
  fun K => decide (PySem.W.subIn K (.ref (ga K "NoCase")) (.ref (ga K "NoCase")) = some true)]
def hCk13 : List (PySem.W.Frag → Bool) := [fun K => decide (PySem.W.subIn K (.ref (ga K "NoCase")) (.ref (ga K "AloneError")) = some true),
  fun K => decide (PySem.W.subIn K (.ref (ga K "NoCase")) (.ref (ga K "NoName")) = some false),
  fun K => decide (PySem.W.subIn K (.ref (ga K "NoCase")) (.ref (ga K "NoField")) = some false),
  fun K => decide (PySem.W.subIn K (.ref (ga K "NoCase")) (.ref (ga K "NoBook")) = some false),
  fun K => decide (PySem.W.subIn K (.ref (ga K "NoCase")) (.ref (ga K "NoText")) = some false),
  fun K => decide (PySem.W.subIn K (.ref (ga K "NoCase")) (.ref (ga K "TooMany")) = some false),
  fun K => decide (PySem.W.subIn K (.ref (ga K "NoCase")) (.ref (ga K "NotOnce")) = some false),
  fun K => decide (PySem.W.subIn K (.ref (ga K "NoCase")) (.ref (ga K "NoProgram")) = some false),
  fun K => decide (PySem.W.subIn K (.ref (ga K "NoCase")) (.ref (ga K "NoRow")) = some false),
  fun K => decide (PySem.W.subIn K (.ref (ga K "NoCase")) (.ref (ga K "NoWish")) = some false),
  fun K => decide (PySem.W.subIn K (.ref (ga K "NoCase")) (.ref (ga K "NoLeaf")) = some false),
  fun K => decide (PySem.W.subIn K (.ref (ga K "NoCase")) (.ref (ga K "NoWord")) = some false),
  fun K => decide (PySem.W.subIn K (.ref (ga K "NoCase")) (.ref (ga K "NoNumbers")) = some false),
  fun K => decide (PySem.W.subIn K (.ref (ga K "NoCase")) (.ref (ga K "NoWhen")) = some false),
  fun K => decide (PySem.W.subIn K (.ref (ga K "NoCase")) (.ref (ga K "NoChange")) = some false),
  fun K => decide (PySem.W.subIn K (.ref (ga K "NoCase")) (.ref (ga K "NoLine")) = some false),
  fun K => decide (PySem.W.subIn K (.ref (ga K "NoCase")) (.ref (ga K "NoKeeper")) = some false),
  fun K => decide (PySem.W.subIn K (.ref (ga K "NoCase")) (.type "KeyError") = some false),
  fun K => decide (PySem.W.subIn K (.ref (ga K "NoCase")) (.type "LookupError") = some false),
  fun K => decide (PySem.W.subIn K (.ref (ga K "NoCase")) (.type "ValueError") = some true)]
def hCk14 : List (PySem.W.Frag → Bool) := [fun K => decide (PySem.W.subIn K (.ref (ga K "NoBook")) (.ref (ga K "NoBook")) = some true),
  fun K => decide (PySem.W.subIn K (.ref (ga K "NoBook")) (.ref (ga K "AloneError")) = some true),
  fun K => decide (PySem.W.subIn K (.ref (ga K "NoBook")) (.ref (ga K "NoName")) = some false),
  fun K => decide (PySem.W.subIn K (.ref (ga K "NoBook")) (.ref (ga K "NoField")) = some false),
  fun K => decide (PySem.W.subIn K (.ref (ga K "NoBook")) (.ref (ga K "NoCase")) = some false),
  fun K => decide (PySem.W.subIn K (.ref (ga K "NoBook")) (.ref (ga K "NoText")) = some false),
  fun K => decide (PySem.W.subIn K (.ref (ga K "NoBook")) (.ref (ga K "TooMany")) = some false),
  fun K => decide (PySem.W.subIn K (.ref (ga K "NoBook")) (.ref (ga K "NotOnce")) = some false),
  fun K => decide (PySem.W.subIn K (.ref (ga K "NoBook")) (.ref (ga K "NoProgram")) = some false),
  fun K => decide (PySem.W.subIn K (.ref (ga K "NoBook")) (.ref (ga K "NoRow")) = some false),
  fun K => decide (PySem.W.subIn K (.ref (ga K "NoBook")) (.ref (ga K "NoWish")) = some false),
  fun K => decide (PySem.W.subIn K (.ref (ga K "NoBook")) (.ref (ga K "NoLeaf")) = some false),
  fun K => decide (PySem.W.subIn K (.ref (ga K "NoBook")) (.ref (ga K "NoWord")) = some false),
  fun K => decide (PySem.W.subIn K (.ref (ga K "NoBook")) (.ref (ga K "NoNumbers")) = some false),
  fun K => decide (PySem.W.subIn K (.ref (ga K "NoBook")) (.ref (ga K "NoWhen")) = some false),
  fun K => decide (PySem.W.subIn K (.ref (ga K "NoBook")) (.ref (ga K "NoChange")) = some false),
  fun K => decide (PySem.W.subIn K (.ref (ga K "NoBook")) (.ref (ga K "NoLine")) = some false),
  fun K => decide (PySem.W.subIn K (.ref (ga K "NoBook")) (.ref (ga K "NoKeeper")) = some false),
  fun K => decide (PySem.W.subIn K (.ref (ga K "NoBook")) (.type "KeyError") = some false),
  fun K => decide (PySem.W.subIn K (.ref (ga K "NoBook")) (.type "LookupError") = some false)]
def hCk15 : List (PySem.W.Frag → Bool) := [fun K => decide (PySem.W.subIn K (.ref (ga K "NoBook")) (.type "ValueError") = some true),
  fun K => decide (PySem.W.subIn K (.ref (ga K "NoText")) (.ref (ga K "NoText")) = some true),
  fun K => decide (PySem.W.subIn K (.ref (ga K "NoText")) (.ref (ga K "AloneError")) = some true),
  fun K => decide (PySem.W.subIn K (.ref (ga K "NoText")) (.ref (ga K "NoName")) = some false),
  fun K => decide (PySem.W.subIn K (.ref (ga K "NoText")) (.ref (ga K "NoField")) = some false),
  fun K => decide (PySem.W.subIn K (.ref (ga K "NoText")) (.ref (ga K "NoCase")) = some false),
  fun K => decide (PySem.W.subIn K (.ref (ga K "NoText")) (.ref (ga K "NoBook")) = some false),
  fun K => decide (PySem.W.subIn K (.ref (ga K "NoText")) (.ref (ga K "TooMany")) = some false),
  fun K => decide (PySem.W.subIn K (.ref (ga K "NoText")) (.ref (ga K "NotOnce")) = some false),
  fun K => decide (PySem.W.subIn K (.ref (ga K "NoText")) (.ref (ga K "NoProgram")) = some false),
  fun K => decide (PySem.W.subIn K (.ref (ga K "NoText")) (.ref (ga K "NoRow")) = some false),
  fun K => decide (PySem.W.subIn K (.ref (ga K "NoText")) (.ref (ga K "NoWish")) = some false),
  fun K => decide (PySem.W.subIn K (.ref (ga K "NoText")) (.ref (ga K "NoLeaf")) = some false),
  fun K => decide (PySem.W.subIn K (.ref (ga K "NoText")) (.ref (ga K "NoWord")) = some false),
  fun K => decide (PySem.W.subIn K (.ref (ga K "NoText")) (.ref (ga K "NoNumbers")) = some false),
  fun K => decide (PySem.W.subIn K (.ref (ga K "NoText")) (.ref (ga K "NoWhen")) = some false),
  fun K => decide (PySem.W.subIn K (.ref (ga K "NoText")) (.ref (ga K "NoChange")) = some false),
  fun K => decide (PySem.W.subIn K (.ref (ga K "NoText")) (.ref (ga K "NoLine")) = some false),
  fun K => decide (PySem.W.subIn K (.ref (ga K "NoText")) (.ref (ga K "NoKeeper")) = some false),
  fun K => decide (PySem.W.subIn K (.ref (ga K "NoText")) (.type "KeyError") = some false)]
def hCk16 : List (PySem.W.Frag → Bool) := [fun K => decide (PySem.W.subIn K (.ref (ga K "NoText")) (.type "LookupError") = some false),
  fun K => decide (PySem.W.subIn K (.ref (ga K "NoText")) (.type "ValueError") = some true),
  fun K => decide (PySem.W.subIn K (.ref (ga K "TooMany")) (.ref (ga K "TooMany")) = some true),
  fun K => decide (PySem.W.subIn K (.ref (ga K "TooMany")) (.ref (ga K "AloneError")) = some true),
  fun K => decide (PySem.W.subIn K (.ref (ga K "TooMany")) (.ref (ga K "NoName")) = some false),
  fun K => decide (PySem.W.subIn K (.ref (ga K "TooMany")) (.ref (ga K "NoField")) = some false),
  fun K => decide (PySem.W.subIn K (.ref (ga K "TooMany")) (.ref (ga K "NoCase")) = some false),
  fun K => decide (PySem.W.subIn K (.ref (ga K "TooMany")) (.ref (ga K "NoBook")) = some false),
  fun K => decide (PySem.W.subIn K (.ref (ga K "TooMany")) (.ref (ga K "NoText")) = some false),
  fun K => decide (PySem.W.subIn K (.ref (ga K "TooMany")) (.ref (ga K "NotOnce")) = some false),
  fun K => decide (PySem.W.subIn K (.ref (ga K "TooMany")) (.ref (ga K "NoProgram")) = some false),
  fun K => decide (PySem.W.subIn K (.ref (ga K "TooMany")) (.ref (ga K "NoRow")) = some false),
  fun K => decide (PySem.W.subIn K (.ref (ga K "TooMany")) (.ref (ga K "NoWish")) = some false),
  fun K => decide (PySem.W.subIn K (.ref (ga K "TooMany")) (.ref (ga K "NoLeaf")) = some false),
  fun K => decide (PySem.W.subIn K (.ref (ga K "TooMany")) (.ref (ga K "NoWord")) = some false),
  fun K => decide (PySem.W.subIn K (.ref (ga K "TooMany")) (.ref (ga K "NoNumbers")) = some false),
  fun K => decide (PySem.W.subIn K (.ref (ga K "TooMany")) (.ref (ga K "NoWhen")) = some false),
  fun K => decide (PySem.W.subIn K (.ref (ga K "TooMany")) (.ref (ga K "NoChange")) = some false),
  fun K => decide (PySem.W.subIn K (.ref (ga K "TooMany")) (.ref (ga K "NoLine")) = some false),
  fun K => decide (PySem.W.subIn K (.ref (ga K "TooMany")) (.ref (ga K "NoKeeper")) = some false)]
def hCk17 : List (PySem.W.Frag → Bool) := [fun K => decide (PySem.W.subIn K (.ref (ga K "TooMany")) (.type "KeyError") = some false),
  fun K => decide (PySem.W.subIn K (.ref (ga K "TooMany")) (.type "LookupError") = some false),
  fun K => decide (PySem.W.subIn K (.ref (ga K "TooMany")) (.type "ValueError") = some true),
  fun K => decide (PySem.W.subIn K (.ref (ga K "NotOnce")) (.ref (ga K "NotOnce")) = some true),
  fun K => decide (PySem.W.subIn K (.ref (ga K "NotOnce")) (.ref (ga K "AloneError")) = some true),
  fun K => decide (PySem.W.subIn K (.ref (ga K "NotOnce")) (.ref (ga K "NoName")) = some false),
  fun K => decide (PySem.W.subIn K (.ref (ga K "NotOnce")) (.ref (ga K "NoField")) = some false),
  fun K => decide (PySem.W.subIn K (.ref (ga K "NotOnce")) (.ref (ga K "NoCase")) = some false),
  fun K => decide (PySem.W.subIn K (.ref (ga K "NotOnce")) (.ref (ga K "NoBook")) = some false),
  fun K => decide (PySem.W.subIn K (.ref (ga K "NotOnce")) (.ref (ga K "NoText")) = some false),
  fun K => decide (PySem.W.subIn K (.ref (ga K "NotOnce")) (.ref (ga K "TooMany")) = some false),
  fun K => decide (PySem.W.subIn K (.ref (ga K "NotOnce")) (.ref (ga K "NoProgram")) = some false),
  fun K => decide (PySem.W.subIn K (.ref (ga K "NotOnce")) (.ref (ga K "NoRow")) = some false),
  fun K => decide (PySem.W.subIn K (.ref (ga K "NotOnce")) (.ref (ga K "NoWish")) = some false),
  fun K => decide (PySem.W.subIn K (.ref (ga K "NotOnce")) (.ref (ga K "NoLeaf")) = some false),
  fun K => decide (PySem.W.subIn K (.ref (ga K "NotOnce")) (.ref (ga K "NoWord")) = some false),
  fun K => decide (PySem.W.subIn K (.ref (ga K "NotOnce")) (.ref (ga K "NoNumbers")) = some false),
  fun K => decide (PySem.W.subIn K (.ref (ga K "NotOnce")) (.ref (ga K "NoWhen")) = some false),
  fun K => decide (PySem.W.subIn K (.ref (ga K "NotOnce")) (.ref (ga K "NoChange")) = some false),
  fun K => decide (PySem.W.subIn K (.ref (ga K "NotOnce")) (.ref (ga K "NoLine")) = some false)]
def hCk18 : List (PySem.W.Frag → Bool) := [fun K => decide (PySem.W.subIn K (.ref (ga K "NotOnce")) (.ref (ga K "NoKeeper")) = some false),
  fun K => decide (PySem.W.subIn K (.ref (ga K "NotOnce")) (.type "KeyError") = some false),
  fun K => decide (PySem.W.subIn K (.ref (ga K "NotOnce")) (.type "LookupError") = some false),
  fun K => decide (PySem.W.subIn K (.ref (ga K "NotOnce")) (.type "ValueError") = some true),
  fun K => decide (PySem.W.subIn K (.ref (ga K "NoProgram")) (.ref (ga K "NoProgram")) = some true),
  fun K => decide (PySem.W.subIn K (.ref (ga K "NoProgram")) (.ref (ga K "AloneError")) = some true),
  fun K => decide (PySem.W.subIn K (.ref (ga K "NoProgram")) (.ref (ga K "NoName")) = some false),
  fun K => decide (PySem.W.subIn K (.ref (ga K "NoProgram")) (.ref (ga K "NoField")) = some false),
  fun K => decide (PySem.W.subIn K (.ref (ga K "NoProgram")) (.ref (ga K "NoCase")) = some false),
  fun K => decide (PySem.W.subIn K (.ref (ga K "NoProgram")) (.ref (ga K "NoBook")) = some false),
  fun K => decide (PySem.W.subIn K (.ref (ga K "NoProgram")) (.ref (ga K "NoText")) = some false),
  fun K => decide (PySem.W.subIn K (.ref (ga K "NoProgram")) (.ref (ga K "TooMany")) = some false),
  fun K => decide (PySem.W.subIn K (.ref (ga K "NoProgram")) (.ref (ga K "NotOnce")) = some false),
  fun K => decide (PySem.W.subIn K (.ref (ga K "NoProgram")) (.ref (ga K "NoRow")) = some false),
  fun K => decide (PySem.W.subIn K (.ref (ga K "NoProgram")) (.ref (ga K "NoWish")) = some false),
  fun K => decide (PySem.W.subIn K (.ref (ga K "NoProgram")) (.ref (ga K "NoLeaf")) = some false),
  fun K => decide (PySem.W.subIn K (.ref (ga K "NoProgram")) (.ref (ga K "NoWord")) = some false),
  fun K => decide (PySem.W.subIn K (.ref (ga K "NoProgram")) (.ref (ga K "NoNumbers")) = some false),
  fun K => decide (PySem.W.subIn K (.ref (ga K "NoProgram")) (.ref (ga K "NoWhen")) = some false),
  fun K => decide (PySem.W.subIn K (.ref (ga K "NoProgram")) (.ref (ga K "NoChange")) = some false)]
def hCk19 : List (PySem.W.Frag → Bool) := [fun K => decide (PySem.W.subIn K (.ref (ga K "NoProgram")) (.ref (ga K "NoLine")) = some false),
  fun K => decide (PySem.W.subIn K (.ref (ga K "NoProgram")) (.ref (ga K "NoKeeper")) = some false),
  fun K => decide (PySem.W.subIn K (.ref (ga K "NoProgram")) (.type "KeyError") = some false),
  fun K => decide (PySem.W.subIn K (.ref (ga K "NoProgram")) (.type "LookupError") = some false),
  fun K => decide (PySem.W.subIn K (.ref (ga K "NoProgram")) (.type "ValueError") = some true),
  fun K => decide (PySem.W.subIn K (.ref (ga K "NoNumbers")) (.ref (ga K "NoNumbers")) = some true),
  fun K => decide (PySem.W.subIn K (.ref (ga K "NoNumbers")) (.ref (ga K "AloneError")) = some true),
  fun K => decide (PySem.W.subIn K (.ref (ga K "NoNumbers")) (.ref (ga K "NoName")) = some false),
  fun K => decide (PySem.W.subIn K (.ref (ga K "NoNumbers")) (.ref (ga K "NoField")) = some false),
  fun K => decide (PySem.W.subIn K (.ref (ga K "NoNumbers")) (.ref (ga K "NoCase")) = some false),
  fun K => decide (PySem.W.subIn K (.ref (ga K "NoNumbers")) (.ref (ga K "NoBook")) = some false),
  fun K => decide (PySem.W.subIn K (.ref (ga K "NoNumbers")) (.ref (ga K "NoText")) = some false),
  fun K => decide (PySem.W.subIn K (.ref (ga K "NoNumbers")) (.ref (ga K "TooMany")) = some false),
  fun K => decide (PySem.W.subIn K (.ref (ga K "NoNumbers")) (.ref (ga K "NotOnce")) = some false),
  fun K => decide (PySem.W.subIn K (.ref (ga K "NoNumbers")) (.ref (ga K "NoProgram")) = some false),
  fun K => decide (PySem.W.subIn K (.ref (ga K "NoNumbers")) (.ref (ga K "NoRow")) = some false),
  fun K => decide (PySem.W.subIn K (.ref (ga K "NoNumbers")) (.ref (ga K "NoWish")) = some false),
  fun K => decide (PySem.W.subIn K (.ref (ga K "NoNumbers")) (.ref (ga K "NoLeaf")) = some false),
  fun K => decide (PySem.W.subIn K (.ref (ga K "NoNumbers")) (.ref (ga K "NoWord")) = some false),
  fun K => decide (PySem.W.subIn K (.ref (ga K "NoNumbers")) (.ref (ga K "NoWhen")) = some false)]
def hCk20 : List (PySem.W.Frag → Bool) := [fun K => decide (PySem.W.subIn K (.ref (ga K "NoNumbers")) (.ref (ga K "NoChange")) = some false),
  fun K => decide (PySem.W.subIn K (.ref (ga K "NoNumbers")) (.ref (ga K "NoLine")) = some false),
  fun K => decide (PySem.W.subIn K (.ref (ga K "NoNumbers")) (.ref (ga K "NoKeeper")) = some false),
  fun K => decide (PySem.W.subIn K (.ref (ga K "NoNumbers")) (.type "KeyError") = some false),
  fun K => decide (PySem.W.subIn K (.ref (ga K "NoNumbers")) (.type "LookupError") = some false),
  fun K => decide (PySem.W.subIn K (.ref (ga K "NoNumbers")) (.type "ValueError") = some true),
  fun K => decide (PySem.W.subIn K (.ref (ga K "NoWhen")) (.ref (ga K "NoWhen")) = some true),
  fun K => decide (PySem.W.subIn K (.ref (ga K "NoWhen")) (.ref (ga K "AloneError")) = some true),
  fun K => decide (PySem.W.subIn K (.ref (ga K "NoWhen")) (.ref (ga K "NoName")) = some false),
  fun K => decide (PySem.W.subIn K (.ref (ga K "NoWhen")) (.ref (ga K "NoField")) = some false),
  fun K => decide (PySem.W.subIn K (.ref (ga K "NoWhen")) (.ref (ga K "NoCase")) = some false),
  fun K => decide (PySem.W.subIn K (.ref (ga K "NoWhen")) (.ref (ga K "NoBook")) = some false),
  fun K => decide (PySem.W.subIn K (.ref (ga K "NoWhen")) (.ref (ga K "NoText")) = some false),
  fun K => decide (PySem.W.subIn K (.ref (ga K "NoWhen")) (.ref (ga K "TooMany")) = some false),
  fun K => decide (PySem.W.subIn K (.ref (ga K "NoWhen")) (.ref (ga K "NotOnce")) = some false),
  fun K => decide (PySem.W.subIn K (.ref (ga K "NoWhen")) (.ref (ga K "NoProgram")) = some false),
  fun K => decide (PySem.W.subIn K (.ref (ga K "NoWhen")) (.ref (ga K "NoRow")) = some false),
  fun K => decide (PySem.W.subIn K (.ref (ga K "NoWhen")) (.ref (ga K "NoWish")) = some false),
  fun K => decide (PySem.W.subIn K (.ref (ga K "NoWhen")) (.ref (ga K "NoLeaf")) = some false),
  fun K => decide (PySem.W.subIn K (.ref (ga K "NoWhen")) (.ref (ga K "NoWord")) = some false)]
def hCk21 : List (PySem.W.Frag → Bool) := [fun K => decide (PySem.W.subIn K (.ref (ga K "NoWhen")) (.ref (ga K "NoNumbers")) = some false),
  fun K => decide (PySem.W.subIn K (.ref (ga K "NoWhen")) (.ref (ga K "NoChange")) = some false),
  fun K => decide (PySem.W.subIn K (.ref (ga K "NoWhen")) (.ref (ga K "NoLine")) = some false),
  fun K => decide (PySem.W.subIn K (.ref (ga K "NoWhen")) (.ref (ga K "NoKeeper")) = some false),
  fun K => decide (PySem.W.subIn K (.ref (ga K "NoWhen")) (.type "KeyError") = some false),
  fun K => decide (PySem.W.subIn K (.ref (ga K "NoWhen")) (.type "LookupError") = some false),
  fun K => decide (PySem.W.subIn K (.ref (ga K "NoWhen")) (.type "ValueError") = some true),
  fun K => decide (PySem.W.subIn K (.ref (ga K "NoChange")) (.ref (ga K "NoChange")) = some true),
  fun K => decide (PySem.W.subIn K (.ref (ga K "NoChange")) (.ref (ga K "AloneError")) = some true),
  fun K => decide (PySem.W.subIn K (.ref (ga K "NoChange")) (.ref (ga K "NoName")) = some false),
  fun K => decide (PySem.W.subIn K (.ref (ga K "NoChange")) (.ref (ga K "NoField")) = some false),
  fun K => decide (PySem.W.subIn K (.ref (ga K "NoChange")) (.ref (ga K "NoCase")) = some false),
  fun K => decide (PySem.W.subIn K (.ref (ga K "NoChange")) (.ref (ga K "NoBook")) = some false),
  fun K => decide (PySem.W.subIn K (.ref (ga K "NoChange")) (.ref (ga K "NoText")) = some false),
  fun K => decide (PySem.W.subIn K (.ref (ga K "NoChange")) (.ref (ga K "TooMany")) = some false),
  fun K => decide (PySem.W.subIn K (.ref (ga K "NoChange")) (.ref (ga K "NotOnce")) = some false),
  fun K => decide (PySem.W.subIn K (.ref (ga K "NoChange")) (.ref (ga K "NoProgram")) = some false),
  fun K => decide (PySem.W.subIn K (.ref (ga K "NoChange")) (.ref (ga K "NoRow")) = some false),
  fun K => decide (PySem.W.subIn K (.ref (ga K "NoChange")) (.ref (ga K "NoWish")) = some false),
  fun K => decide (PySem.W.subIn K (.ref (ga K "NoChange")) (.ref (ga K "NoLeaf")) = some false)]
def hCk22 : List (PySem.W.Frag → Bool) := [fun K => decide (PySem.W.subIn K (.ref (ga K "NoChange")) (.ref (ga K "NoWord")) = some false),
  fun K => decide (PySem.W.subIn K (.ref (ga K "NoChange")) (.ref (ga K "NoNumbers")) = some false),
  fun K => decide (PySem.W.subIn K (.ref (ga K "NoChange")) (.ref (ga K "NoWhen")) = some false),
  fun K => decide (PySem.W.subIn K (.ref (ga K "NoChange")) (.ref (ga K "NoLine")) = some false),
  fun K => decide (PySem.W.subIn K (.ref (ga K "NoChange")) (.ref (ga K "NoKeeper")) = some false),
  fun K => decide (PySem.W.subIn K (.ref (ga K "NoChange")) (.type "KeyError") = some false),
  fun K => decide (PySem.W.subIn K (.ref (ga K "NoChange")) (.type "LookupError") = some false),
  fun K => decide (PySem.W.subIn K (.ref (ga K "NoChange")) (.type "ValueError") = some true),
  fun K => decide (PySem.W.subIn K (.ref (ga K "NoLine")) (.ref (ga K "NoLine")) = some true),
  fun K => decide (PySem.W.subIn K (.ref (ga K "NoLine")) (.ref (ga K "AloneError")) = some true),
  fun K => decide (PySem.W.subIn K (.ref (ga K "NoLine")) (.ref (ga K "NoName")) = some false),
  fun K => decide (PySem.W.subIn K (.ref (ga K "NoLine")) (.ref (ga K "NoField")) = some false),
  fun K => decide (PySem.W.subIn K (.ref (ga K "NoLine")) (.ref (ga K "NoCase")) = some false),
  fun K => decide (PySem.W.subIn K (.ref (ga K "NoLine")) (.ref (ga K "NoBook")) = some false),
  fun K => decide (PySem.W.subIn K (.ref (ga K "NoLine")) (.ref (ga K "NoText")) = some false),
  fun K => decide (PySem.W.subIn K (.ref (ga K "NoLine")) (.ref (ga K "TooMany")) = some false),
  fun K => decide (PySem.W.subIn K (.ref (ga K "NoLine")) (.ref (ga K "NotOnce")) = some false),
  fun K => decide (PySem.W.subIn K (.ref (ga K "NoLine")) (.ref (ga K "NoProgram")) = some false),
  fun K => decide (PySem.W.subIn K (.ref (ga K "NoLine")) (.ref (ga K "NoRow")) = some false),
  fun K => decide (PySem.W.subIn K (.ref (ga K "NoLine")) (.ref (ga K "NoWish")) = some false)]
def hCk23 : List (PySem.W.Frag → Bool) := [fun K => decide (PySem.W.subIn K (.ref (ga K "NoLine")) (.ref (ga K "NoLeaf")) = some false),
  fun K => decide (PySem.W.subIn K (.ref (ga K "NoLine")) (.ref (ga K "NoWord")) = some false),
  fun K => decide (PySem.W.subIn K (.ref (ga K "NoLine")) (.ref (ga K "NoNumbers")) = some false),
  fun K => decide (PySem.W.subIn K (.ref (ga K "NoLine")) (.ref (ga K "NoWhen")) = some false),
  fun K => decide (PySem.W.subIn K (.ref (ga K "NoLine")) (.ref (ga K "NoChange")) = some false),
  fun K => decide (PySem.W.subIn K (.ref (ga K "NoLine")) (.ref (ga K "NoKeeper")) = some false),
  fun K => decide (PySem.W.subIn K (.ref (ga K "NoLine")) (.type "KeyError") = some false),
  fun K => decide (PySem.W.subIn K (.ref (ga K "NoLine")) (.type "LookupError") = some false),
  fun K => decide (PySem.W.subIn K (.ref (ga K "NoLine")) (.type "ValueError") = some true),
  fun K => decide (PySem.W.subIn K (.ref (ga K "NoKeeper")) (.ref (ga K "NoKeeper")) = some true),
  fun K => decide (PySem.W.subIn K (.ref (ga K "NoKeeper")) (.ref (ga K "AloneError")) = some false),
  fun K => decide (PySem.W.subIn K (.ref (ga K "NoKeeper")) (.ref (ga K "NoName")) = some false),
  fun K => decide (PySem.W.subIn K (.ref (ga K "NoKeeper")) (.ref (ga K "NoField")) = some false),
  fun K => decide (PySem.W.subIn K (.ref (ga K "NoKeeper")) (.ref (ga K "NoCase")) = some false),
  fun K => decide (PySem.W.subIn K (.ref (ga K "NoKeeper")) (.ref (ga K "NoBook")) = some false),
  fun K => decide (PySem.W.subIn K (.ref (ga K "NoKeeper")) (.ref (ga K "NoText")) = some false),
  fun K => decide (PySem.W.subIn K (.ref (ga K "NoKeeper")) (.ref (ga K "TooMany")) = some false),
  fun K => decide (PySem.W.subIn K (.ref (ga K "NoKeeper")) (.ref (ga K "NotOnce")) = some false),
  fun K => decide (PySem.W.subIn K (.ref (ga K "NoKeeper")) (.ref (ga K "NoProgram")) = some false),
  fun K => decide (PySem.W.subIn K (.ref (ga K "NoKeeper")) (.ref (ga K "NoRow")) = some false)]
def hCk24 : List (PySem.W.Frag → Bool) := [fun K => decide (PySem.W.subIn K (.ref (ga K "NoKeeper")) (.ref (ga K "NoWish")) = some false),
  fun K => decide (PySem.W.subIn K (.ref (ga K "NoKeeper")) (.ref (ga K "NoLeaf")) = some false),
  fun K => decide (PySem.W.subIn K (.ref (ga K "NoKeeper")) (.ref (ga K "NoWord")) = some false),
  fun K => decide (PySem.W.subIn K (.ref (ga K "NoKeeper")) (.ref (ga K "NoNumbers")) = some false),
  fun K => decide (PySem.W.subIn K (.ref (ga K "NoKeeper")) (.ref (ga K "NoWhen")) = some false),
  fun K => decide (PySem.W.subIn K (.ref (ga K "NoKeeper")) (.ref (ga K "NoChange")) = some false),
  fun K => decide (PySem.W.subIn K (.ref (ga K "NoKeeper")) (.ref (ga K "NoLine")) = some false),
  fun K => decide (PySem.W.subIn K (.ref (ga K "NoKeeper")) (.type "KeyError") = some false),
  fun K => decide (PySem.W.subIn K (.ref (ga K "NoKeeper")) (.type "LookupError") = some true),
  fun K => decide (PySem.W.subIn K (.ref (ga K "NoKeeper")) (.type "ValueError") = some false),
  fun K => decide (PySem.W.subIn K (.ref (ga K "NoRow")) (.ref (ga K "NoRow")) = some true),
  fun K => decide (PySem.W.subIn K (.ref (ga K "NoRow")) (.ref (ga K "AloneError")) = some true),
  fun K => decide (PySem.W.subIn K (.ref (ga K "NoRow")) (.ref (ga K "NoName")) = some false),
  fun K => decide (PySem.W.subIn K (.ref (ga K "NoRow")) (.ref (ga K "NoField")) = some false),
  fun K => decide (PySem.W.subIn K (.ref (ga K "NoRow")) (.ref (ga K "NoCase")) = some false),
  fun K => decide (PySem.W.subIn K (.ref (ga K "NoRow")) (.ref (ga K "NoBook")) = some false),
  fun K => decide (PySem.W.subIn K (.ref (ga K "NoRow")) (.ref (ga K "NoText")) = some false),
  fun K => decide (PySem.W.subIn K (.ref (ga K "NoRow")) (.ref (ga K "TooMany")) = some false),
  fun K => decide (PySem.W.subIn K (.ref (ga K "NoRow")) (.ref (ga K "NotOnce")) = some false),
  fun K => decide (PySem.W.subIn K (.ref (ga K "NoRow")) (.ref (ga K "NoProgram")) = some false)]
def hCk25 : List (PySem.W.Frag → Bool) := [fun K => decide (PySem.W.subIn K (.ref (ga K "NoRow")) (.ref (ga K "NoWish")) = some false),
  fun K => decide (PySem.W.subIn K (.ref (ga K "NoRow")) (.ref (ga K "NoLeaf")) = some false),
  fun K => decide (PySem.W.subIn K (.ref (ga K "NoRow")) (.ref (ga K "NoWord")) = some false),
  fun K => decide (PySem.W.subIn K (.ref (ga K "NoRow")) (.ref (ga K "NoNumbers")) = some false),
  fun K => decide (PySem.W.subIn K (.ref (ga K "NoRow")) (.ref (ga K "NoWhen")) = some false),
  fun K => decide (PySem.W.subIn K (.ref (ga K "NoRow")) (.ref (ga K "NoChange")) = some false),
  fun K => decide (PySem.W.subIn K (.ref (ga K "NoRow")) (.ref (ga K "NoLine")) = some false),
  fun K => decide (PySem.W.subIn K (.ref (ga K "NoRow")) (.ref (ga K "NoKeeper")) = some false),
  fun K => decide (PySem.W.subIn K (.ref (ga K "NoRow")) (.type "KeyError") = some false),
  fun K => decide (PySem.W.subIn K (.ref (ga K "NoRow")) (.type "LookupError") = some false),
  fun K => decide (PySem.W.subIn K (.ref (ga K "NoRow")) (.type "ValueError") = some true),
  fun K => decide (PySem.W.subIn K (.ref (ga K "NoWish")) (.ref (ga K "NoWish")) = some true),
  fun K => decide (PySem.W.subIn K (.ref (ga K "NoWish")) (.ref (ga K "AloneError")) = some true),
  fun K => decide (PySem.W.subIn K (.ref (ga K "NoWish")) (.ref (ga K "NoName")) = some false),
  fun K => decide (PySem.W.subIn K (.ref (ga K "NoWish")) (.ref (ga K "NoField")) = some false),
  fun K => decide (PySem.W.subIn K (.ref (ga K "NoWish")) (.ref (ga K "NoCase")) = some false),
  fun K => decide (PySem.W.subIn K (.ref (ga K "NoWish")) (.ref (ga K "NoBook")) = some false),
  fun K => decide (PySem.W.subIn K (.ref (ga K "NoWish")) (.ref (ga K "NoText")) = some false),
  fun K => decide (PySem.W.subIn K (.ref (ga K "NoWish")) (.ref (ga K "TooMany")) = some false),
  fun K => decide (PySem.W.subIn K (.ref (ga K "NoWish")) (.ref (ga K "NotOnce")) = some false)]
def hCk26 : List (PySem.W.Frag → Bool) := [fun K => decide (PySem.W.subIn K (.ref (ga K "NoWish")) (.ref (ga K "NoProgram")) = some false),
  fun K => decide (PySem.W.subIn K (.ref (ga K "NoWish")) (.ref (ga K "NoRow")) = some false),
  fun K => decide (PySem.W.subIn K (.ref (ga K "NoWish")) (.ref (ga K "NoLeaf")) = some false),
  fun K => decide (PySem.W.subIn K (.ref (ga K "NoWish")) (.ref (ga K "NoWord")) = some false),
  fun K => decide (PySem.W.subIn K (.ref (ga K "NoWish")) (.ref (ga K "NoNumbers")) = some false),
  fun K => decide (PySem.W.subIn K (.ref (ga K "NoWish")) (.ref (ga K "NoWhen")) = some false),
  fun K => decide (PySem.W.subIn K (.ref (ga K "NoWish")) (.ref (ga K "NoChange")) = some false),
  fun K => decide (PySem.W.subIn K (.ref (ga K "NoWish")) (.ref (ga K "NoLine")) = some false),
  fun K => decide (PySem.W.subIn K (.ref (ga K "NoWish")) (.ref (ga K "NoKeeper")) = some false),
  fun K => decide (PySem.W.subIn K (.ref (ga K "NoWish")) (.type "KeyError") = some false),
  fun K => decide (PySem.W.subIn K (.ref (ga K "NoWish")) (.type "LookupError") = some false),
  fun K => decide (PySem.W.subIn K (.ref (ga K "NoWish")) (.type "ValueError") = some true),
  fun K => decide (PySem.W.subIn K (.ref (ga K "NoLeaf")) (.ref (ga K "NoLeaf")) = some true),
  fun K => decide (PySem.W.subIn K (.ref (ga K "NoLeaf")) (.ref (ga K "AloneError")) = some true),
  fun K => decide (PySem.W.subIn K (.ref (ga K "NoLeaf")) (.ref (ga K "NoName")) = some false),
  fun K => decide (PySem.W.subIn K (.ref (ga K "NoLeaf")) (.ref (ga K "NoField")) = some false),
  fun K => decide (PySem.W.subIn K (.ref (ga K "NoLeaf")) (.ref (ga K "NoCase")) = some false),
  fun K => decide (PySem.W.subIn K (.ref (ga K "NoLeaf")) (.ref (ga K "NoBook")) = some false),
  fun K => decide (PySem.W.subIn K (.ref (ga K "NoLeaf")) (.ref (ga K "NoText")) = some false),
  fun K => decide (PySem.W.subIn K (.ref (ga K "NoLeaf")) (.ref (ga K "TooMany")) = some false)]
def hCk27 : List (PySem.W.Frag → Bool) := [fun K => decide (PySem.W.subIn K (.ref (ga K "NoLeaf")) (.ref (ga K "NotOnce")) = some false),
  fun K => decide (PySem.W.subIn K (.ref (ga K "NoLeaf")) (.ref (ga K "NoProgram")) = some false),
  fun K => decide (PySem.W.subIn K (.ref (ga K "NoLeaf")) (.ref (ga K "NoRow")) = some false),
  fun K => decide (PySem.W.subIn K (.ref (ga K "NoLeaf")) (.ref (ga K "NoWish")) = some false),
  fun K => decide (PySem.W.subIn K (.ref (ga K "NoLeaf")) (.ref (ga K "NoWord")) = some false),
  fun K => decide (PySem.W.subIn K (.ref (ga K "NoLeaf")) (.ref (ga K "NoNumbers")) = some false),
  fun K => decide (PySem.W.subIn K (.ref (ga K "NoLeaf")) (.ref (ga K "NoWhen")) = some false),
  fun K => decide (PySem.W.subIn K (.ref (ga K "NoLeaf")) (.ref (ga K "NoChange")) = some false),
  fun K => decide (PySem.W.subIn K (.ref (ga K "NoLeaf")) (.ref (ga K "NoLine")) = some false),
  fun K => decide (PySem.W.subIn K (.ref (ga K "NoLeaf")) (.ref (ga K "NoKeeper")) = some false),
  fun K => decide (PySem.W.subIn K (.ref (ga K "NoLeaf")) (.type "KeyError") = some false),
  fun K => decide (PySem.W.subIn K (.ref (ga K "NoLeaf")) (.type "LookupError") = some false),
  fun K => decide (PySem.W.subIn K (.ref (ga K "NoLeaf")) (.type "ValueError") = some true),
  fun K => decide (PySem.W.subIn K (.ref (ga K "NoWord")) (.ref (ga K "NoWord")) = some true),
  fun K => decide (PySem.W.subIn K (.ref (ga K "NoWord")) (.ref (ga K "AloneError")) = some true),
  fun K => decide (PySem.W.subIn K (.ref (ga K "NoWord")) (.ref (ga K "NoName")) = some false),
  fun K => decide (PySem.W.subIn K (.ref (ga K "NoWord")) (.ref (ga K "NoField")) = some false),
  fun K => decide (PySem.W.subIn K (.ref (ga K "NoWord")) (.ref (ga K "NoCase")) = some false),
  fun K => decide (PySem.W.subIn K (.ref (ga K "NoWord")) (.ref (ga K "NoBook")) = some false),
  fun K => decide (PySem.W.subIn K (.ref (ga K "NoWord")) (.ref (ga K "NoText")) = some false)]
def hCk28 : List (PySem.W.Frag → Bool) := [fun K => decide (PySem.W.subIn K (.ref (ga K "NoWord")) (.ref (ga K "TooMany")) = some false),
  fun K => decide (PySem.W.subIn K (.ref (ga K "NoWord")) (.ref (ga K "NotOnce")) = some false),
  fun K => decide (PySem.W.subIn K (.ref (ga K "NoWord")) (.ref (ga K "NoProgram")) = some false),
  fun K => decide (PySem.W.subIn K (.ref (ga K "NoWord")) (.ref (ga K "NoRow")) = some false),
  fun K => decide (PySem.W.subIn K (.ref (ga K "NoWord")) (.ref (ga K "NoWish")) = some false),
  fun K => decide (PySem.W.subIn K (.ref (ga K "NoWord")) (.ref (ga K "NoLeaf")) = some false),
  fun K => decide (PySem.W.subIn K (.ref (ga K "NoWord")) (.ref (ga K "NoNumbers")) = some false),
  fun K => decide (PySem.W.subIn K (.ref (ga K "NoWord")) (.ref (ga K "NoWhen")) = some false),
  fun K => decide (PySem.W.subIn K (.ref (ga K "NoWord")) (.ref (ga K "NoChange")) = some false),
  fun K => decide (PySem.W.subIn K (.ref (ga K "NoWord")) (.ref (ga K "NoLine")) = some false),
  fun K => decide (PySem.W.subIn K (.ref (ga K "NoWord")) (.ref (ga K "NoKeeper")) = some false),
  fun K => decide (PySem.W.subIn K (.ref (ga K "NoWord")) (.type "KeyError") = some false),
  fun K => decide (PySem.W.subIn K (.ref (ga K "NoWord")) (.type "LookupError") = some false),
  fun K => decide (PySem.W.subIn K (.ref (ga K "NoWord")) (.type "ValueError") = some true),
  fun K => decide (PySem.W.subIn K (.type "NoneType") (.ref (ga K "AloneError")) = some false),
  fun K => decide (PySem.W.subIn K (.type "NoneType") (.ref (ga K "NoName")) = some false),
  fun K => decide (PySem.W.subIn K (.type "NoneType") (.ref (ga K "NoField")) = some false),
  fun K => decide (PySem.W.subIn K (.type "NoneType") (.ref (ga K "NoCase")) = some false),
  fun K => decide (PySem.W.subIn K (.type "NoneType") (.ref (ga K "NoBook")) = some false),
  fun K => decide (PySem.W.subIn K (.type "NoneType") (.ref (ga K "NoText")) = some false)]
def hCk29 : List (PySem.W.Frag → Bool) := [fun K => decide (PySem.W.subIn K (.type "NoneType") (.ref (ga K "TooMany")) = some false),
  fun K => decide (PySem.W.subIn K (.type "NoneType") (.ref (ga K "NotOnce")) = some false),
  fun K => decide (PySem.W.subIn K (.type "NoneType") (.ref (ga K "NoProgram")) = some false),
  fun K => decide (PySem.W.subIn K (.type "NoneType") (.ref (ga K "NoRow")) = some false),
  fun K => decide (PySem.W.subIn K (.type "NoneType") (.ref (ga K "NoWish")) = some false),
  fun K => decide (PySem.W.subIn K (.type "NoneType") (.ref (ga K "NoLeaf")) = some false),
  fun K => decide (PySem.W.subIn K (.type "NoneType") (.ref (ga K "NoWord")) = some false),
  fun K => decide (PySem.W.subIn K (.type "NoneType") (.ref (ga K "NoNumbers")) = some false),
  fun K => decide (PySem.W.subIn K (.type "NoneType") (.ref (ga K "NoWhen")) = some false),
  fun K => decide (PySem.W.subIn K (.type "NoneType") (.ref (ga K "NoChange")) = some false),
  fun K => decide (PySem.W.subIn K (.type "NoneType") (.ref (ga K "NoLine")) = some false),
  fun K => decide (PySem.W.subIn K (.type "NoneType") (.ref (ga K "NoKeeper")) = some false),
  fun K => decide (PySem.W.nsIn K mainGlobals "_law_pool" = some (some (.ref (ga K "_law_pool")))),
  fun K => decide (PySem.W.nsIn K mainGlobals "_law_take" = some (some (.ref (ga K "_law_take")))),
  fun K => decide (PySem.W.nsIn K mainGlobals "_law_made" = some (some (.ref (ga K "_law_made")))),
  fun K => decide (PySem.W.nsIn K mainGlobals "_law_part" = some (some (.ref (ga K "_law_part")))),
  fun K => decide (PySem.W.nsIn K mainGlobals "_law_sorts" = some (some (.ref (ga K "_law_sorts")))),
  fun K => decide (PySem.W.nsIn K mainGlobals "_law_kinds" = some (some (.ref (ga K "_law_kinds")))),
  fun K => decide (PySem.W.nsIn K mainGlobals "_law_kept" = some (some (.ref (ga K "_law_kept")))),
  fun K => decide (PySem.W.nsIn K mainGlobals "law" = some (some (.ref (ga K "law"))))]
def hCk30 : List (PySem.W.Frag → Bool) := [fun K => decide (PySem.W.nsIn K mainGlobals "KeyError" = some none),
  fun K => decide (PySem.W.nsIn K mainGlobals "LookupError" = some none),
  fun K => decide (PySem.W.nsIn K mainGlobals "ValueError" = some none),
  fun K => decide (PySem.W.nsIn K mainGlobals "int" = some none),
  fun K => decide (PySem.W.nsIn K mainGlobals "isinstance" = some none),
  fun K => decide (PySem.W.nsIn K mainGlobals "len" = some none),
  fun K => decide (PySem.W.nsIn K mainGlobals "range" = some none)]
def hCk : List (PySem.W.Frag → Bool) := hCk0 ++ hCk1 ++ hCk2 ++ hCk3 ++ hCk4 ++ hCk5 ++ hCk6 ++ hCk7 ++ hCk8 ++ hCk9 ++ hCk10 ++ hCk11 ++ hCk12 ++ hCk13 ++ hCk14 ++ hCk15 ++ hCk16 ++ hCk17 ++ hCk18 ++ hCk19 ++ hCk20 ++ hCk21 ++ hCk22 ++ hCk23 ++ hCk24 ++ hCk25 ++ hCk26 ++ hCk27 ++ hCk28 ++ hCk29 ++ hCk30
def hd_0 : DefD := ⟨("NoName", some "__init__"), "__init__", "NoName.__init__", defArgs hsx_NoName, defBody hsx_NoName, defScope hsx_NoName, [], []⟩
def hd_1 : DefD := ⟨("NoField", some "__init__"), "__init__", "NoField.__init__", defArgs hsx_NoField, defBody hsx_NoField, defScope hsx_NoField, [], []⟩
def hd_2 : DefD := ⟨("NoCase", some "__init__"), "__init__", "NoCase.__init__", defArgs hsx_NoCase, defBody hsx_NoCase, defScope hsx_NoCase, [], []⟩
def hd_3 : DefD := ⟨("NoBook", some "__init__"), "__init__", "NoBook.__init__", defArgs hsx_NoBook, defBody hsx_NoBook, defScope hsx_NoBook, [], []⟩
def hd_4 : DefD := ⟨("NoText", some "__init__"), "__init__", "NoText.__init__", defArgs hsx_NoText, defBody hsx_NoText, defScope hsx_NoText, [], []⟩
def hd_5 : DefD := ⟨("TooMany", some "__init__"), "__init__", "TooMany.__init__", defArgs hsx_TooMany, defBody hsx_TooMany, defScope hsx_TooMany, [], []⟩
def hd_6 : DefD := ⟨("NotOnce", some "__init__"), "__init__", "NotOnce.__init__", defArgs hsx_NotOnce, defBody hsx_NotOnce, defScope hsx_NotOnce, [], []⟩
def hd_7 : DefD := ⟨("NoProgram", some "__init__"), "__init__", "NoProgram.__init__", defArgs hsx_NoProgram, defBody hsx_NoProgram, defScope hsx_NoProgram, [], []⟩
def hd_8 : DefD := ⟨("_law_pool", none), "_law_pool", "_law_pool", defArgs hs_law_pool, defBody hs_law_pool, defScope hs_law_pool, [], []⟩
def hd_9 : DefD := ⟨("_law_take", none), "_law_take", "_law_take", defArgs hs_law_take, defBody hs_law_take, defScope hs_law_take, [], []⟩
def hd_10 : DefD := ⟨("_law_made", none), "_law_made", "_law_made", defArgs hs_law_made, defBody hs_law_made, defScope hs_law_made, [], []⟩
def hd_11 : DefD := ⟨("_law_part", none), "_law_part", "_law_part", defArgs hs_law_part, defBody hs_law_part, defScope hs_law_part, [], []⟩
def hd_12 : DefD := ⟨("_law_sorts", none), "_law_sorts", "_law_sorts", defArgs hs_law_sorts, defBody hs_law_sorts, defScope hs_law_sorts, [], []⟩
def hd_13 : DefD := ⟨("_law_kinds", none), "_law_kinds", "_law_kinds", defArgs hs_law_kinds, defBody hs_law_kinds, defScope hs_law_kinds, [], []⟩
def hd_14 : DefD := ⟨("_law_kept", none), "_law_kept", "_law_kept", defArgs hs_law_kept, defBody hs_law_kept, defScope hs_law_kept, [], []⟩
def hd_15 : DefD := ⟨("law", none), "law", "law", defArgs hs_law, defBody hs_law, defScope hs_law, [], []⟩
def hFn0 : List DefD := [hd_0,
  hd_1,
  hd_2,
  hd_3,
  hd_4,
  hd_5,
  hd_6,
  hd_7,
  hd_8,
  hd_9,
  hd_10,
  hd_11,
  hd_12,
  hd_13,
  hd_14,
  hd_15]
def hFn : List DefD := hFn0
def hDx : List (Str × List Str) := []
def hAs0 : List Addr := [3, 2, 24, 44, 64, 83, 102, 121, 140, 159, 178, 190, 202, 214, 226, 238, 250, 262, 274, 286, 296, 303, 310, 317, 324]
def hAs1 : List Addr := [331, 338, 343, 23, 43, 63, 82, 101, 120, 139, 158, 177, 189, 201, 213, 225, 237, 249, 261, 273, 285, 295, 302, 309, 316]
def hAs2 : List Addr := [323, 330, 337, 342, 41, 61, 80, 99, 118, 137, 156, 175, 40, 60, 79, 98, 117, 136, 155, 174]
def hAs : List Addr := hAs0 ++ hAs1 ++ hAs2
abbrev hHk : PySem.W.Hook := hookVL hAs hCk hFn hDx
def hOb (s : PySem.W.SharedT) : AlV := obsVL hAs hCk hFn hDx (HandSHeadRun.getT s)
theorem hOb_eq (s : PySem.W.SharedT) : hOb s = hHk.obs s.abs := obsVL_eq (HandSHeadRun.getT_eq s)
set_option maxHeartbeats 0 in
theorem hRun (w : World) : HandSHeadRun.RunEq hR (PySem.W.view hR.prog [27]) hHk hOb 30000 hNames w := by
  intro os
  kernel_rfl
end Lw
end
section
namespace Vi
open PySem PySem.Spec L2
inductive Ty where
  | int | bool | str | list | tuple | dict
  deriving DecidableEq
def Ty.nm : Ty → String
  | .int => "int"
  | .bool => "bool"
  | .str => "str"
  | .list => "list"
  | .tuple => "tuple"
  | .dict => "dict"
inductive D where
  | non
  | bl (b : Bool)
  | int (i : Int)
  | str (s : Str)
  | tup (ds : List D)
  | lst (ds : List D)
  | scr (ds : List D)
  | ref (n : Nat)
  | ty (n : Ty)
  | cls (c : String)
  | rng (lo hi : Int)
  | exc (c : String) (ns : List Str) (ds : List D)
  | obj (c : String) (ns : List Str) (ds : List D)
  | dk (ks : List Key) (ds : List D)
  | db (ks : List (List Bool)) (ds : List D)
  | dz (ks : List Key) (ds : List D)
  | dw (ks : List (List Bool)) (ds : List D)
inductive O where
  | lst (ds : List D)
  | dct (ks : List Key) (ds : List D)
  | dtb (ks : List (List Bool)) (ds : List D)
  | dtn (ks : List NestedKey) (ds : List D)
  | dctL (ho : HO) (ks : List Key) (ds : List D)
  | ins (c : String) (ns : List Str) (ds : List D)
  | dead
structure G where
  K : PySem.W.Frag
  cls : String → Addr
  w : World
inductive R (α : Type) where
  | ok (a : α) (A : List O)
  | ex (c : String) (fs : List (Str × D)) (A : List O)
  | no
def R.bind {α β : Type} (r : R α) (f : α → List O → R β) : R β :=
  match r with
  | .ok a A => f a A
  | .ex c fs A => .ex c fs A
  | .no => .no
@[simp] theorem R.bind_ok {α β : Type} (a : α) (A : List O) (f : α → List O → R β) : (R.ok a A).bind f = f a A := rfl
@[simp] theorem R.bind_ex {α β : Type} (c : String) (fs : List (Str × D)) (A : List O) (f : α → List O → R β) : (R.ex c fs A : R α).bind f = .ex c fs A := rfl
@[simp] theorem R.bind_no {α β : Type} (f : α → List O → R β) : (R.no : R α).bind f = .no := rfl
abbrev Env := List (Option D)
abbrev M (α : Type) := Env → List O → R α
def hashB (bs : List Bool) : Int := reduceHash (Builtin.Tuple.tupleHashOf (bs.map fun b => hashInt (if b then 1 else 0)))
def entB (x : List Bool × Addr) (u : Value) : DictEntry := ⟨hashB x.1, .ref x.2, u⟩
def DbO (a : Addr) (ks : List (List Bool × Addr)) (vs : List V) : HO := .ext fun h => ks.length ≤ sizeLine ∧ (a == sysModules) = false ∧ (ks.map (·.1)).Nodup ∧
  ∃ us o es ep, Vals vs us ∧ us.length = ks.length ∧ h.get? a = some o ∧ o.ExactDict ∧ o.data = .dict es ep ∧ es.toList = List.zipWith entB ks us
inductive KsR (K : PySem.W.Frag) (W : Hp) : List (List Bool) → List Addr → Prop
  | nil : KsR K W [] []
  | cons {k : List Bool} {ks : List (List Bool)} {p : Addr} {ps : List Addr} : SqT K W p (k.map V.bl) → KsR K W ks ps → KsR K W (k :: ks) (p :: ps)
mutual
inductive NV (K : PySem.W.Frag) (W : Hp) : NestedKey → V → Prop
  | none : NV K W .none .non
  | num (i : Int) : NV K W (.num i) (.int i)
  | bl (b : Bool) : NV K W (.num (if b then 1 else 0)) (.bl b)
  | text (x : Str) : NV K W (.text x) (.str x)
  | tup {ks : List NestedKey} {a : Addr} {vs : List V} : SqT K W a vs → NVs K W ks vs → NV K W (.tup ks) (.ref a)
inductive NVs (K : PySem.W.Frag) (W : Hp) : List NestedKey → List V → Prop
  | nil : NVs K W [] []
  | cons {k : NestedKey} {ks : List NestedKey} {v : V} {vs : List V} : NV K W k v → NVs K W ks vs → NVs K W (k :: ks) (v :: vs)
end
def entN (w : World) (x : NestedKey × Addr) (u : Value) : DictEntry := ⟨x.1.hash w, .ref x.2, u⟩
def DnO (w : World) (a : Addr) (ks : List (NestedKey × Addr)) (vs : List V) : HO := .ext fun h => ks.length ≤ sizeLine ∧ (a == sysModules) = false ∧ (ks.map (·.1)).Nodup ∧
  ∃ us o es ep, Vals vs us ∧ us.length = ks.length ∧ h.get? a = some o ∧ o.ExactDict ∧ o.data = .dict es ep ∧ es.toList = List.zipWith (entN w) ks us
inductive KnR (K : PySem.W.Frag) (W : Hp) : List NestedKey → List Addr → Prop
  | nil : KnR K W [] []
  | cons {k : NestedKey} {ks : List NestedKey} {p : Addr} {ps : List Addr} : NV K W k (.ref p) → k.depth ≤ 8 → KnR K W ks ps → KnR K W (k :: ks) (p :: ps)
def XcO (cls : Value) (d : Option Addr) (a : Addr) : HO := .ext fun h => ∃ (oe : Obj) (vs : Array Value), h.get? a = some oe ∧ Zc cls d oe ∧ oe.data = .fields vs
def XcW (W : Hp) (cls : Value) (ns : List Str) (vs : List V) (a : Addr) : Prop := (ns = [] ∧ W a = some (XcO cls none a)) ∨ (ns ≠ [] ∧ ∃ dx, W a = some (XcO cls (some dx) a) ∧ W dx = some (.xd (ns.zip vs)))
theorem XcW.mono {W W' : Hp} {cls : Value} {ns : List Str} {vs : List V} {a : Addr} (e : ∀ a o, W a = some o → W' a = some o) : XcW W cls ns vs a → XcW W' cls ns vs a
  | .inl ⟨h, w⟩ => .inl ⟨h, e _ _ w⟩
  | .inr ⟨h, dx, w, w2⟩ => .inr ⟨h, dx, e _ _ w, e _ _ w2⟩
mutual
inductive VR (g : G) (W : Hp) (ρ : List Addr) : D → V → Prop
  | non : VR g W ρ .non .non
  | bl (b : Bool) : VR g W ρ (.bl b) (.bl b)
  | int (i : Int) : VR g W ρ (.int i) (.int i)
  | str (s : Str) : VR g W ρ (.str s) (.str s)
  | tup {ds : List D} {a : Addr} {vs : List V} : SqT g.K W a vs → VRs g W ρ ds vs → VR g W ρ (.tup ds) (.ref a)
  | lst {ds : List D} {a : Addr} {vs : List V} : W a = some (.lst vs) → VRs g W ρ ds vs → VR g W ρ (.lst ds) (.ref a)
  | scr {ds : List D} {a : Addr} {vs : List V} : SqL g.K W a vs → VRs g W ρ ds vs → VR g W ρ (.scr ds) (.ref a)
  | ref {n : Nat} {a : Addr} : ρ[n]? = some a → VR g W ρ (.ref n) (.ref a)
  | ty (n : Ty) : VR g W ρ (.ty n) (.ty n.nm)
  | cls (c : String) : VR g W ρ (.cls c) (.ref (g.cls c))
  | rng {lo hi : Int} {a : Addr} : W a = some (.rng lo hi) → VR g W ρ (.rng lo hi) (.ref a)
  | exc {c : String} {ns : List Str} {ds : List D} {a : Addr} {vs : List V} : XcW W (.ref (g.cls c)) ns vs a → ns.length = ds.length → VRs g W ρ ds vs → VR g W ρ (.exc c ns ds) (.ref a)
  | obj {c : String} {ns : List Str} {ds : List D} {a dx : Addr} {vs : List V} : W a = some (.ins (g.cls c) dx (ns.zip vs)) → ns.length = ds.length → VRs g W ρ ds vs → VR g W ρ (.obj c ns ds) (.ref a)
  | dk {ks : List Key} {ds : List D} {a : Addr} {vs : List V} : W a = some (.dK (ks.zip vs)) → ks.length = ds.length → ks.Nodup → VRs g W ρ ds vs → VR g W ρ (.dk ks ds) (.ref a)
  | db {ks : List (List Bool)} {ps : List Addr} {ds : List D} {a : Addr} {vs : List V} : W a = some (DbO a (ks.zip ps) vs) → ks.length = ds.length → KsR g.K W ks ps → VRs g W ρ ds vs → VR g W ρ (.db ks ds) (.ref a)
  | dz {ks : List Key} {ds : List D} {a : Addr} {vs : List V} {od : Obj} : W a = some (.frz od (.dK (ks.zip vs))) → ks.length = ds.length → ks.Nodup → VRs g W ρ ds vs → VR g W ρ (.dz ks ds) (.ref a)
  | dw {ks : List (List Bool)} {ps : List Addr} {ds : List D} {a : Addr} {vs : List V} {od : Obj} : W a = some (.frz od (DbO a (ks.zip ps) vs)) → ks.length = ds.length → KsR g.K W ks ps → VRs g W ρ ds vs → VR g W ρ (.dw ks ds) (.ref a)
inductive VRs (g : G) (W : Hp) (ρ : List Addr) : List D → List V → Prop
  | nil : VRs g W ρ [] []
  | cons {d : D} {ds : List D} {v : V} {vs : List V} : VR g W ρ d v → VRs g W ρ ds vs → VRs g W ρ (d :: ds) (v :: vs)
end
inductive KR (g : G) (W : Hp) (ρ : List Addr) {κ : Type} : List (κ × D) → List (κ × V) → Prop
  | nil : KR g W ρ [] []
  | cons {k : κ} {d : D} {v : V} {ds : List (κ × D)} {vs : List (κ × V)} : VR g W ρ d v → KR g W ρ ds vs → KR g W ρ ((k, d) :: ds) ((k, v) :: vs)
def OR (g : G) (W : Hp) (ρ : List Addr) (a : Addr) : O → Option HO → Prop
  | .lst ds, o => ∃ vs, o = some (.lst vs) ∧ VRs g W ρ ds vs
  | .dct ks ds, o => ∃ vs, o = some (.dK (ks.zip vs)) ∧ ks.length = ds.length ∧ ks.Nodup ∧ VRs g W ρ ds vs
  | .dtb ks ds, o => ∃ ps vs, o = some (DbO a (ks.zip ps) vs) ∧ ks.length = ds.length ∧ KsR g.K W ks ps ∧ VRs g W ρ ds vs
  | .dctL ho ks ds, o => o = some ho ∧ ∃ od vs, ho = .frz od (.dK (ks.zip vs)) ∧ ks.length = ds.length ∧ ks.Nodup ∧ VRs g W ρ ds vs
  | .dtn ks ds, o => ∃ ps vs, o = some (DnO g.w a (ks.zip ps) vs) ∧ ks.length = ds.length ∧ KnR g.K W ks ps ∧ VRs g W ρ ds vs
  | .ins c ns ds, o => ∃ dx vs, o = some (.ins (g.cls c) dx (ns.zip vs)) ∧ ns.length = ds.length ∧ VRs g W ρ ds vs
  | .dead, _ => True
structure Ex2 (W : Hp) (ρ : List Addr) (W' : Hp) (ρ' : List Addr) : Prop where
  same : ∀ (a : Addr) (o : HO), W a = some o → W' a = some o
  pre : ∀ (n : Nat) (a : Addr), ρ[n]? = some a → ρ'[n]? = some a
theorem Ex2.refl (W : Hp) (ρ : List Addr) : Ex2 W ρ W ρ := ⟨fun _ _ h => h, fun _ _ h => h⟩
theorem Ex2.trans {W W1 W2 : Hp} {ρ ρ1 ρ2 : List Addr} (a : Ex2 W ρ W1 ρ1) (b : Ex2 W1 ρ1 W2 ρ2) : Ex2 W ρ W2 ρ2 :=
  ⟨fun x o h => b.same x o (a.same x o h), fun n x h => b.pre n x (a.pre n x h)⟩
theorem rd_mono {H H' : Hp} {a : Addr} {u : HO} (e : ∀ a o, H a = some o → H' a = some o) (h : Rd H a u) : Rd H' a u := by
  rcases h with h | ⟨o, h⟩
  · exact .inl (e a _ h)
  · exact .inr ⟨o, e a _ h⟩
theorem sqL_mono {K : PySem.W.Frag} {H H' : Hp} {a : Addr} {xs : List V} (e : ∀ a o, H a = some o → H' a = some o) (h : SqL K H a xs) : SqL K H' a xs := by
  rcases h with h | h
  · exact .inl (rd_mono e h)
  · exact .inr h
theorem sqT_mono {K : PySem.W.Frag} {H H' : Hp} {a : Addr} {xs : List V} (e : ∀ a o, H a = some o → H' a = some o) (h : SqT K H a xs) : SqT K H' a xs := by
  rcases h with h | h
  · exact .inl (rd_mono e h)
  · exact .inr h
theorem KsR.mono {K : PySem.W.Frag} {H H' : Hp} (e : ∀ a o, H a = some o → H' a = some o) : ∀ {ks : List (List Bool)} {ps : List Addr}, KsR K H ks ps → KsR K H' ks ps
  | _, _, .nil => .nil
  | _, _, .cons h r => .cons (sqT_mono e h) (KsR.mono e r)
mutual
theorem NV.mono {K : PySem.W.Frag} {H H' : Hp} (e : ∀ a o, H a = some o → H' a = some o) : ∀ {k : NestedKey} {v : V}, NV K H k v → NV K H' k v
  | _, _, .none => .none
  | _, _, .num i => .num i
  | _, _, .bl b => .bl b
  | _, _, .text x => .text x
  | _, _, .tup h r => .tup (sqT_mono e h) (NVs.mono e r)
theorem NVs.mono {K : PySem.W.Frag} {H H' : Hp} (e : ∀ a o, H a = some o → H' a = some o) : ∀ {ks : List NestedKey} {vs : List V}, NVs K H ks vs → NVs K H' ks vs
  | _, _, .nil => .nil
  | _, _, .cons h r => .cons (NV.mono e h) (NVs.mono e r)
end
theorem KnR.mono {K : PySem.W.Frag} {H H' : Hp} (e : ∀ a o, H a = some o → H' a = some o) : ∀ {ks : List NestedKey} {ps : List Addr}, KnR K H ks ps → KnR K H' ks ps
  | _, _, .nil => .nil
  | _, _, .cons h d r => .cons (NV.mono e h) d (KnR.mono e r)
theorem KnR.length {K : PySem.W.Frag} {H : Hp} : ∀ {ks : List NestedKey} {ps : List Addr}, KnR K H ks ps → ks.length = ps.length
  | _, _, .nil => rfl
  | _, _, .cons _ _ r => by simp [KnR.length r]
theorem KsR.length {K : PySem.W.Frag} {H : Hp} : ∀ {ks : List (List Bool)} {ps : List Addr}, KsR K H ks ps → ks.length = ps.length
  | _, _, .nil => rfl
  | _, _, .cons _ r => by simp [KsR.length r]
section
variable {g : G} {W W' : Hp} {ρ ρ' : List Addr}
mutual
theorem VR.mono (e : Ex2 W ρ W' ρ') : ∀ {d : D} {v : V}, VR g W ρ d v → VR g W' ρ' d v
  | _, _, .non => .non
  | _, _, .bl b => .bl b
  | _, _, .int i => .int i
  | _, _, .str s => .str s
  | _, _, .tup h r => .tup (sqT_mono e.same h) (VRs.mono e r)
  | _, _, .lst h r => .lst (e.same _ _ h) (VRs.mono e r)
  | _, _, .scr h r => .scr (sqL_mono e.same h) (VRs.mono e r)
  | _, _, .ref h => .ref (e.pre _ _ h)
  | _, _, .ty n => .ty n
  | _, _, .cls c => .cls c
  | _, _, .rng h => .rng (e.same _ _ h)
  | _, _, .exc h l r => .exc (h.mono e.same) l (VRs.mono e r)
  | _, _, .obj h l r => .obj (e.same _ _ h) l (VRs.mono e r)
  | _, _, .dk h l n r => .dk (e.same _ _ h) l n (VRs.mono e r)
  | _, _, .db h l k r => .db (e.same _ _ h) l (k.mono e.same) (VRs.mono e r)
  | _, _, .dz h l n r => .dz (e.same _ _ h) l n (VRs.mono e r)
  | _, _, .dw h l k r => .dw (e.same _ _ h) l (k.mono e.same) (VRs.mono e r)
theorem VRs.mono (e : Ex2 W ρ W' ρ') : ∀ {ds : List D} {vs : List V}, VRs g W ρ ds vs → VRs g W' ρ' ds vs
  | _, _, .nil => .nil
  | _, _, .cons h r => .cons (VR.mono e h) (VRs.mono e r)
end
theorem KR.mono {κ : Type} (e : Ex2 W ρ W' ρ') : ∀ {ds : List (κ × D)} {vs : List (κ × V)}, KR g W ρ ds vs → KR g W' ρ' ds vs
  | _, _, .nil => .nil
  | _, _, .cons h r => .cons (h.mono e) (KR.mono e r)
theorem OR.mono (e : Ex2 W ρ W' ρ') {a : Addr} {o : O} {h : Option HO} (r : OR g W ρ a o h) : OR g W' ρ' a o h := by
  cases o with
  | lst ds => obtain ⟨vs, e1, r⟩ := r; exact ⟨vs, e1, r.mono e⟩
  | dct ks ds => obtain ⟨vs, e1, l, n, r⟩ := r; exact ⟨vs, e1, l, n, r.mono e⟩
  | dtb ks ds => obtain ⟨ps, vs, e1, l, k, r⟩ := r; exact ⟨ps, vs, e1, l, k.mono e.same, r.mono e⟩
  | dtn ks ds => obtain ⟨ps, vs, e1, l, k, r⟩ := r; exact ⟨ps, vs, e1, l, k.mono e.same, r.mono e⟩
  | dctL ho ks ds => obtain ⟨e0, od, vs, e1, l, n, r⟩ := r; exact ⟨e0, od, vs, e1, l, n, r.mono e⟩
  | ins c ns ds => obtain ⟨dx, gs, e1, l, r⟩ := r; exact ⟨dx, gs, e1, l, r.mono e⟩
  | dead => trivial
theorem VRs.length {ds : List D} {vs : List V} (h : VRs g W ρ ds vs) : ds.length = vs.length := by
  induction ds generalizing vs with
  | nil => cases h; rfl
  | cons d ds ih => cases h with | cons h r => simp [ih r]
theorem VRs.append : ∀ {ds es : List D} {vs us : List V}, VRs g W ρ ds vs → VRs g W ρ es us → VRs g W ρ (ds ++ es) (vs ++ us)
  | _, _, _, _, .nil, s => s
  | _, _, _, _, .cons r t, s => .cons r (VRs.append t s)
theorem VRs.get : ∀ {ds : List D} {vs : List V} {i : Nat} {d : D}, VRs g W ρ ds vs → ds[i]? = some d → ∃ v, vs[i]? = some v ∧ VR g W ρ d v
  | _, _, _, _, .nil, e => by simp at e
  | _, _, 0, _, .cons r _, e => by simp at e; subst e; exact ⟨_, rfl, r⟩
  | _, _, i + 1, _, .cons _ t, e => by
    obtain ⟨v, h1, h2⟩ := VRs.get (i := i) t (by simpa using e)
    exact ⟨v, by simpa using h1, h2⟩
theorem VRs.set {d : D} {v : V} (r : VR g W ρ d v) : ∀ {ds : List D} {vs : List V} (i : Nat), VRs g W ρ ds vs → VRs g W ρ (ds.set i d) (vs.set i v)
  | _, _, _, .nil => .nil
  | _, _, 0, .cons _ t => .cons r t
  | _, _, i + 1, .cons q t => .cons q (VRs.set r i t)
theorem VRs.take : ∀ {ds : List D} {vs : List V} (n : Nat), VRs g W ρ ds vs → VRs g W ρ (ds.take n) (vs.take n)
  | _, _, 0, _ => .nil
  | _, _, _ + 1, .nil => .nil
  | _, _, n + 1, .cons r t => .cons r (VRs.take n t)
theorem VRs.drop : ∀ {ds : List D} {vs : List V} (n : Nat), VRs g W ρ ds vs → VRs g W ρ (ds.drop n) (vs.drop n)
  | _, _, 0, r => r
  | _, _, _ + 1, .nil => .nil
  | _, _, n + 1, .cons _ t => VRs.drop n t
theorem VRs.reverse : ∀ {ds : List D} {vs : List V}, VRs g W ρ ds vs → VRs g W ρ ds.reverse vs.reverse
  | _, _, .nil => .nil
  | _, _, .cons r t => by rw [List.reverse_cons, List.reverse_cons]; exact (VRs.reverse t).append (.cons r .nil)
theorem KR.length {κ : Type} : ∀ {ds : List (κ × D)} {vs : List (κ × V)}, KR g W ρ ds vs → ds.length = vs.length
  | _, _, .nil => rfl
  | _, _, .cons _ r => by simp [KR.length r]
end
structure Ext (W : Hp) (ρ : List Addr) (H : Hp) (W' : Hp) (ρ' : List Addr) (H' : Hp) : Prop where
  ex : Ex2 W ρ W' ρ'
  fr : ∀ (p : Addr) (o : HO), H p = some o → p ∉ ρ → H' p = some o ∧ p ∉ ρ' ∧ (W p = none → W' p = none)
theorem Ext.refl (W : Hp) (ρ : List Addr) (H : Hp) : Ext W ρ H W ρ H := ⟨Ex2.refl W ρ, fun _ _ h n => ⟨h, n, fun z => z⟩⟩
theorem Ext.trans {W W1 W2 : Hp} {ρ ρ1 ρ2 : List Addr} {H H1 H2 : Hp} (a : Ext W ρ H W1 ρ1 H1) (b : Ext W1 ρ1 H1 W2 ρ2 H2) : Ext W ρ H W2 ρ2 H2 :=
  ⟨a.ex.trans b.ex, fun p o h n => by
    obtain ⟨h1, n1, w1⟩ := a.fr p o h n
    obtain ⟨h2, n2, w2⟩ := b.fr p o h1 n1
    exact ⟨h2, n2, fun z => w2 (w1 z)⟩⟩
theorem nodup_ixA {l : List Addr} (hN : l.Nodup) {i j : Nat} {x : Addr} (a : l[i]? = some x) (b : l[j]? = some x) : i = j := by
  obtain ⟨h1, e1⟩ := List.getElem?_eq_some_iff.mp a
  obtain ⟨h2, e2⟩ := List.getElem?_eq_some_iff.mp b
  exact (List.getElem_inj hN).mp (e1.trans e2.symm)
structure Rl (g : G) (W : Hp) (ρ : List Addr) (A : List O) (H : Hp) : Prop where
  ext : ∀ a o, W a = some o → H a = some o
  len : ρ.length = A.length
  nd : ρ.Nodup
  obj : ∀ (n : Nat) (o : O) (a : Addr), A[n]? = some o → ρ[n]? = some a → OR g W ρ a o (H a)
  nw : ∀ (n : Nat) (o : O) (a : Addr), A[n]? = some o → ρ[n]? = some a → o = .dead ∨ W a = none
  al : ∀ (n : Nat) (a : Addr), ρ[n]? = some a → H a ≠ none
section
variable {g : G} {W W' : Hp} {ρ ρ' : List Addr} {A : List O} {H H' : Hp} {p a : Addr} {n : Nat} {o o' : O} {ho : HO}
theorem Rl.fresh (h : Rl g W ρ A H) (hp : H p = none) : W p = none := by
  cases q : W p with
  | none => rfl
  | some o => rw [h.ext p o q] at hp; cases hp
theorem Rl.notin (h : Rl g W ρ A H) (hp : H p = none) : p ∉ ρ := fun hm => by
  obtain ⟨n, hn, e⟩ := List.getElem_of_mem hm
  exact h.al n p (by rw [List.getElem?_eq_getElem hn, e]) hp
theorem Rl.other (h : Rl g W ρ A H) (hp : H p = none) : Rl g W ρ A (upd H p ho) := by
  have hn := h.notin hp
  have ne : ∀ {n : Nat} {a : Addr}, ρ[n]? = some a → a ≠ p := fun {n a} e z => hn (by rw [← z]; exact List.mem_of_getElem? e)
  refine ⟨fun a o e => ?_, h.len, h.nd, fun n o a h1 h2 => ?_, h.nw, fun n a e => ?_⟩
  · rw [upd_ne (ne_of_none (h.ext a o e) hp)]; exact h.ext a o e
  · rw [upd_ne (ne h2)]; exact h.obj n o a h1 h2
  · rw [upd_ne (ne e)]; exact h.al n a e
theorem Rl.newW (h : Rl g W ρ A H) (hp : H p = none) : Ext W ρ H (upd W p ho) ρ (upd H p ho) ∧ Rl g (upd W p ho) ρ A (upd H p ho) := by
  have hw := h.fresh hp
  have hn := h.notin hp
  have e : Ex2 W ρ (upd W p ho) ρ := ⟨fun a o q => by rw [upd_ne (ne_of_none q hw)]; exact q, fun _ _ q => q⟩
  have h2 := h.other (ho := ho) hp
  refine ⟨⟨e, fun q o q1 q2 => ?_⟩, fun a o q => ?_, h.len, h.nd, fun n o a h3 h4 => (h2.obj n o a h3 h4).mono e, fun n o a h3 h4 => ?_, h2.al⟩
  · have z := ne_of_none q1 hp
    exact ⟨by rw [upd_ne z]; exact q1, q2, fun w => by rw [upd_ne z]; exact w⟩
  · by_cases z : a = p
    · subst z; rw [upd_same] at q ⊢; exact q
    · rw [upd_ne z] at q ⊢; exact h.ext a o q
  · rcases h.nw n o a h3 h4 with z | z
    · exact .inl z
    · right; rw [upd_ne (fun z => hn (by rw [← z]; exact List.mem_of_getElem? h4))]; exact z
theorem Rl.new (h : Rl g W ρ A H) (hp : H p = none) (r : OR g W (ρ ++ [p]) p o (some ho)) : Ext W ρ H W (ρ ++ [p]) (upd H p ho) ∧ Rl g W (ρ ++ [p]) (A ++ [o]) (upd H p ho) ∧ (ρ ++ [p])[A.length]? = some p := by
  have hn := h.notin hp
  have e : Ex2 W ρ W (ρ ++ [p]) := ⟨fun _ _ q => q, fun n a q => by
    rw [List.getElem?_append_left (List.getElem?_eq_some_iff.mp q).1]; exact q⟩
  have hl : (ρ ++ [p])[A.length]? = some p := by rw [← h.len]; simp
  refine ⟨⟨e, fun q o q1 q2 => ?_⟩, ⟨?_, ?_, ?_, ?_, ?_, ?_⟩, hl⟩
  · have z := ne_of_none q1 hp
    exact ⟨by rw [upd_ne z]; exact q1, fun m => (List.mem_append.mp m).elim q2 fun m => z (List.mem_singleton.mp m), fun w => w⟩
  · intro a o q
    rw [upd_ne (ne_of_none (h.ext a o q) hp)]; exact h.ext a o q
  · simp [h.len]
  · rw [List.nodup_append]
    refine ⟨h.nd, by simp, fun a ha b hb => ?_⟩
    simp only [List.mem_singleton] at hb
    rintro rfl
    exact hn (hb ▸ ha)
  · intro n o1 a h1 h2
    by_cases hlt : n < A.length
    · rw [List.getElem?_append_left hlt] at h1
      rw [List.getElem?_append_left (by rw [h.len]; exact hlt)] at h2
      rw [upd_ne (fun z => hn (by rw [← z]; exact List.mem_of_getElem? h2))]
      exact (h.obj n o1 a h1 h2).mono e
    · have en : n = A.length := by
        have := (List.getElem?_eq_some_iff.mp h1).1
        simp at this
        omega
      subst en
      rw [hl] at h2; cases h2
      simp at h1; subst h1
      rw [upd_same]; exact r
  · intro n o1 a h1 h2
    by_cases hlt : n < A.length
    · rw [List.getElem?_append_left hlt] at h1
      rw [List.getElem?_append_left (by rw [h.len]; exact hlt)] at h2
      exact h.nw n o1 a h1 h2
    · have en : n = A.length := by
        have := (List.getElem?_eq_some_iff.mp h1).1
        simp at this
        omega
      subst en
      rw [hl] at h2; cases h2
      exact .inr (h.fresh hp)
  · intro n a h2
    by_cases z : a = p
    · subst z; rw [upd_same]; simp
    · rw [upd_ne z]
      have hlt : n < ρ.length := by
        rcases Nat.lt_or_ge n ρ.length with q | q
        · exact q
        · rw [List.getElem?_append_right q] at h2
          have q2 : n - ρ.length = 0 := by
            have := (List.getElem?_eq_some_iff.mp h2).1
            simp at this
            omega
          rw [q2] at h2
          simp at h2
          exact absurd h2.symm z
      rw [List.getElem?_append_left hlt] at h2
      exact h.al n a h2
theorem Rl.put (h : Rl g W ρ A H) (h1 : A[n]? = some o) (hd : o ≠ .dead) (h2 : ρ[n]? = some a) (r : OR g W ρ a o' (some ho)) : Rl g W ρ (A.set n o') (upd H a ho) := by
  have wa : W a = none := (h.nw n o a h1 h2).resolve_left hd
  have hn : n < A.length := (List.getElem?_eq_some_iff.mp h1).1
  have inj : ∀ {m : Nat} {b : Addr}, ρ[m]? = some b → m ≠ n → b ≠ a := fun {m b} e z q => z (nodup_ixA h.nd e (by rw [q]; exact h2))
  refine ⟨fun b o e => ?_, by simp [h.len], h.nd, fun m o1 b e1 e2 => ?_, fun m o1 b e1 e2 => ?_, fun m b e => ?_⟩
  · rw [upd_ne (ne_of_none e wa)]; exact h.ext b o e
  · by_cases z : m = n
    · subst z
      rw [List.getElem?_set_self hn] at e1; cases e1
      rw [h2] at e2; cases e2
      rw [upd_same]; exact r
    · rw [List.getElem?_set_ne (Ne.symm z)] at e1
      rw [upd_ne (inj e2 z)]
      exact h.obj m o1 b e1 e2
  · by_cases z : m = n
    · subst z
      rw [h2] at e2; cases e2
      exact .inr wa
    · rw [List.getElem?_set_ne (Ne.symm z)] at e1
      exact h.nw m o1 b e1 e2
  · by_cases z : b = a
    · subst z; rw [upd_same]; simp
    · rw [upd_ne z]; exact h.al m b e
theorem Rl.putE (h2 : ρ[n]? = some a) : Ext W ρ H W ρ (upd H a ho) :=
  ⟨Ex2.refl W ρ, fun q o e n => ⟨by rw [upd_ne (fun z => n (by rw [z]; exact List.mem_of_getElem? h2))]; exact e, n, fun z => z⟩⟩
end
structure ER (g : G) (W : Hp) (ρ : List Addr) (σd : Env) (σ : St) : Prop where
  len : σd.length = σ.length
  at_ : ∀ (i : Nat) (d : D), σd[i]? = some (some d) → ∃ v, σ[i]? = some (some v) ∧ VR g W ρ d v
section
variable {g : G} {W W' : Hp} {ρ ρ' : List Addr} {σd : Env} {σ : St}
theorem ER.mono (e : Ex2 W ρ W' ρ') (h : ER g W ρ σd σ) : ER g W' ρ' σd σ := ⟨h.len, fun i d q => let ⟨v, h1, h2⟩ := h.at_ i d q; ⟨v, h1, h2.mono e⟩⟩
theorem ER.set {d : D} {v : V} (h : ER g W ρ σd σ) (i : Nat) (r : VR g W ρ d v) : ER g W ρ (σd.set i (some d)) (σ.set i (some v)) := by
  refine ⟨by simp [h.len], fun j d' q => ?_⟩
  by_cases z : i = j
  · subst z
    by_cases hl : i < σd.length
    · rw [List.getElem?_set_self hl] at q; cases q
      exact ⟨v, by rw [List.getElem?_set_self (by rw [← h.len]; exact hl)], r⟩
    · rw [List.getElem?_eq_none (by simpa using hl)] at q; cases q
  · rw [List.getElem?_set_ne z] at q ⊢
    exact h.at_ j d' q
theorem ER.unset (h : ER g W ρ σd σ) (i : Nat) : ER g W ρ (σd.set i none) (σ.set i none) := by
  refine ⟨by simp [h.len], fun j d' q => ?_⟩
  by_cases z : i = j
  · subst z
    by_cases hl : i < σd.length
    · rw [List.getElem?_set_self hl] at q; cases q
    · rw [List.getElem?_eq_none (by simpa using hl)] at q; cases q
  · rw [List.getElem?_set_ne z] at q ⊢
    exact h.at_ j d' q
theorem ER.start {ds : List D} {vs : List V} {N : List Str} (r : VRs g W ρ ds vs) : ER g W ρ (ds.map some ++ List.replicate (N.length - ds.length) none) (L2.start N vs) := by
  have hl := r.length
  unfold L2.start
  refine ⟨by simp [hl], fun i d q => ?_⟩
  have hi : i < ds.length := by
    by_cases hi : i < ds.length
    · exact hi
    · rw [List.getElem?_append_right (by simpa using hi), List.getElem?_replicate] at q
      split at q <;> cases q
  rw [List.getElem?_append_left (by simpa using hi), List.getElem?_map] at q
  cases e : ds[i]? with
  | none => rw [e] at q; cases q
  | some d' =>
    rw [e] at q; cases q
    obtain ⟨v, h1, h2⟩ := r.get e
    exact ⟨v, by rw [List.getElem?_append_left (by rw [List.length_map, ← hl]; exact hi), List.getElem?_map, h1]; rfl, h2⟩
end
def XF (g : G) (W : Hp) (ρ : List Addr) (H : Hp) (fs : List (Str × D)) (dd : Option Addr) : Prop :=
  (fs = [] ∧ dd = none) ∨ (fs ≠ [] ∧ ∃ d vs, dd = some d ∧ W d = some (.xd ((fs.map (·.1)).zip vs)) ∧ VRs g W ρ (fs.map (·.2)) vs)
def Post (g : G) {α β : Type} (rel : Hp → List Addr → α → β → Prop) (EX : WX) (W : Hp) (ρ : List Addr) (H : Hp) (σ : St) (r : R α) (Q : β → Hp → Prop) : Prop :=
  match r with
  | .ok d A => ∀ W' ρ' H' v, Ext W ρ H W' ρ' H' → Rl g W' ρ' A H' → rel W' ρ' d v → Q v H'
  | .ex c fs A => ∀ W' ρ' H' dd, Ext W ρ H W' ρ' H' → Rl g W' ρ' A H' → XF g W' ρ' H' fs dd → EX (.ref (g.cls c)) dd σ H'
  | .no => False
theorem Post.mono {g : G} {α β : Type} {rel : Hp → List Addr → α → β → Prop} {EX : WX} {W W' : Hp} {ρ ρ' : List Addr} {H H' : Hp} {σ : St} {r : R α} {Q : β → Hp → Prop} (e : Ext W ρ H W' ρ' H') (h : Post g rel EX W ρ H σ r Q) : Post g rel EX W' ρ' H' σ r Q := by
  cases r with
  | ok d A => exact fun W2 ρ2 H2 v e2 => h W2 ρ2 H2 v (e.trans e2)
  | ex c fs A => exact fun W2 ρ2 H2 v e2 => h W2 ρ2 H2 v (e.trans e2)
  | no => exact h
theorem Post.bind {g : G} {α β γ δ : Type} {rel : Hp → List Addr → α → β → Prop} {rel' : Hp → List Addr → γ → δ → Prop} {EX : WX} {W : Hp} {ρ : List Addr} {H : Hp} {σ : St} {r : R α} {f : α → List O → R γ} {Q : δ → Hp → Prop}
    (h : Post g rel' EX W ρ H σ (r.bind f) Q) : Post g rel EX W ρ H σ r (fun v H' => ∃ W' ρ' A' d, Ext W ρ H W' ρ' H' ∧ Rl g W' ρ' A' H' ∧ rel W' ρ' d v ∧ r = .ok d A' ∧ Post g rel' EX W' ρ' H' σ (f d A') Q) := by
  cases r with
  | ok d A => exact fun W2 ρ2 H2 v e2 R2 r2 => ⟨W2, ρ2, A, d, e2, R2, r2, rfl, Post.mono e2 h⟩
  | ex c fs A => exact h
  | no => exact h
def tM (g : G) {α β : Type} (rel : Hp → List Addr → α → β → Prop) (EX : WX) (m : M α) : St → Hp → (β → Hp → Prop) → Prop := fun σ H Q =>
  ∃ W ρ A σd, Rl g W ρ A H ∧ ER g W ρ σd σ ∧ Post g rel EX W ρ H σ (m σd A) Q
abbrev tE (g : G) (EX : WX) (m : M D) : TE := tM g (VR g) EX m
abbrev tT (g : G) (EX : WX) (m : M Bool) : TT := tM g (fun _ _ a b => a = b) EX m
abbrev tA (g : G) (EX : WX) (m : M (List D)) : TA := tM g (VRs g) EX m
theorem tM.bind {g : G} {α β γ δ : Type} {rel : Hp → List Addr → α → β → Prop} {rel' : Hp → List Addr → γ → δ → Prop} {EX : WX} {σ : St} {H : Hp} {m : M α} {f : Env → α → List O → R γ} {Q : δ → Hp → Prop}
    (h : tM g rel' EX (fun σd A => (m σd A).bind (f σd)) σ H Q) : tM g rel EX m σ H (fun v H' => ∃ W ρ A σd d, Rl g W ρ A H' ∧ ER g W ρ σd σ ∧ rel W ρ d v ∧ Post g rel' EX W ρ H' σ (f σd d A) Q) := by
  obtain ⟨W, ρ, A, σd, hR, hE, hP⟩ := h
  refine ⟨W, ρ, A, σd, hR, hE, ?_⟩
  have h2 := Post.bind (rel := rel) hP
  cases e : m σd A with
  | ok d A' =>
    rw [e] at h2
    intro W2 ρ2 H2 v e2 R2 r2
    obtain ⟨W3, ρ3, A3, d3, e3, R3, r3, _, p3⟩ := h2 W2 ρ2 H2 v e2 R2 r2
    exact ⟨W3, ρ3, A3, σd, d3, R3, hE.mono e3.ex, r3, p3⟩
  | ex c fs A' => rw [e] at h2; exact h2
  | no => rw [e] at h2; exact h2
theorem tM.bind2 {g : G} {α β α' β' γ δ : Type} {rel : Hp → List Addr → α → β → Prop} {rel2 : Hp → List Addr → α' → β' → Prop} {rel' : Hp → List Addr → γ → δ → Prop} {EX : WX} {σ : St} {H : Hp} {m : M α} {m2 : M α'} {f : α → α' → List O → R γ} {Q : δ → Hp → Prop}
    (mono : ∀ {W W' : Hp} {ρ ρ' : List Addr} {d : α} {v : β}, Ex2 W ρ W' ρ' → rel W ρ d v → rel W' ρ' d v)
    (h : tM g rel' EX (fun σd A => (m σd A).bind fun x A => (m2 σd A).bind fun y A => f x y A) σ H Q) :
    tM g rel EX m σ H fun v H1 => tM g rel2 EX m2 σ H1 fun u H2 => ∃ W ρ A x y, Rl g W ρ A H2 ∧ rel W ρ x v ∧ rel2 W ρ y u ∧ Post g rel' EX W ρ H2 σ (f x y A) Q := by
  obtain ⟨W, ρ, A, σd, hR, hE, hP⟩ := h
  refine ⟨W, ρ, A, σd, hR, hE, ?_⟩
  have h2 := Post.bind (rel := rel) hP
  cases e : m σd A with
  | ok d A' =>
    rw [e] at h2
    intro W2 ρ2 H2 v e2 R2 r2
    obtain ⟨W3, ρ3, A3, d3, e3, R3, r3, q3, p3⟩ := h2 W2 ρ2 H2 v e2 R2 r2
    cases q3
    refine ⟨W3, ρ3, A', σd, R3, hE.mono e3.ex, ?_⟩
    have h3 := Post.bind (rel := rel2) p3
    cases e' : m2 σd A' with
    | ok y A4 =>
      rw [e'] at h3
      intro W4 ρ4 H4 u e4 R4 r4
      obtain ⟨W5, ρ5, A5, d5, e5, R5, r5, q5, p5⟩ := h3 W4 ρ4 H4 u e4 R4 r4
      cases q5
      exact ⟨W5, ρ5, A4, d, y, R5, mono e5.ex r3, r5, p5⟩
    | ex c fs A' => rw [e'] at h3; exact h3
    | no => rw [e'] at h3; exact h3
  | ex c fs A' => rw [e] at h2; exact h2
  | no => rw [e] at h2; exact h2
theorem Post.weak {g : G} {α β : Type} {rel : Hp → List Addr → α → β → Prop} {EX : WX} {W : Hp} {ρ : List Addr} {H : Hp} {σ : L2.St} {r : R α} {Q Q' : β → Hp → Prop} (h : Post g rel EX W ρ H σ r Q) (i : ∀ v H, Q v H → Q' v H) : Post g rel EX W ρ H σ r Q' := by
  cases r with
  | ok d A => exact fun W2 ρ2 H2 v e2 R2 r2 => i _ _ (h W2 ρ2 H2 v e2 R2 r2)
  | ex c fs A => exact h
  | no => exact h
theorem tM.weak {g : G} {α β : Type} {rel : Hp → List Addr → α → β → Prop} {EX : WX} {m : M α} {σ : L2.St} {H : Hp} {Q Q' : β → Hp → Prop} (h : tM g rel EX m σ H Q) (i : ∀ v H, Q v H → Q' v H) : tM g rel EX m σ H Q' := by
  obtain ⟨W, ρ, A, σd, hR, hE, hP⟩ := h
  exact ⟨W, ρ, A, σd, hR, hE, hP.weak i⟩
theorem PE.imp {X : Cx} {e : Expr} {t u : TE} (h : PE X e t) (i : ∀ σ H Q, u σ H Q → t σ H Q) : PE X e u := ⟨fun pins s σ H Q I q => h.run pins s σ H Q I (i σ H Q q)⟩
theorem PT.imp {X : Cx} {e : Expr} {t u : TT} (h : PT X e t) (i : ∀ σ H Q, u σ H Q → t σ H Q) : PT X e u := ⟨fun pins s σ H Q I q => h.run pins s σ H Q I (i σ H Q q)⟩
theorem PW.imp {X : Cx} {e : Expr} {t u : TT} (h : PW X e t) (i : ∀ σ H Q, u σ H Q → t σ H Q) : PW X e u := ⟨fun w pins s σ H Q I q => h.run w pins s σ H Q I (i σ H Q q)⟩
theorem PA.imp {X : Cx} {e : List Expr} {t u : TA} (h : PA X e t) (i : ∀ σ H Q, u σ H Q → t σ H Q) : PA X e u := ⟨fun pos pins s σ H Q I q => h.run pos pins s σ H Q I (i σ H Q q)⟩
theorem PS.imp {X : Cx} {e : Stmt} {t u : TS} (h : PS X e t) (i : ∀ D σ H, u D σ H → t D σ H) : PS X e u := ⟨fun pins s σ H D I q => h.run pins s σ H D I (i D σ H q)⟩
theorem PSs.imp {X : Cx} {e : List Stmt} {t u : TS} (h : PSs X e t) (i : ∀ D σ H, u D σ H → t D σ H) : PSs X e u := ⟨fun pins s σ H D I q => h.run pins s σ H D I (i D σ H q)⟩
end Vi
end
section
namespace Vi
open PySem PySem.Spec L2
def mVar (i : Nat) : M D := fun σ A => match σ[i]? with
  | some (some d) => .ok d A
  | _ => .no
def mC (d : D) : M D := fun _ A => .ok d A
def m1 (f : D → List O → R D) (ma : M D) : M D := fun σ A => (ma σ A).bind f
def m2 (f : D → D → List O → R D) (ma mb : M D) : M D := fun σ A => (ma σ A).bind fun x A => (mb σ A).bind fun y A => f x y A
def mArgs0 : M (List D) := fun _ A => .ok [] A
def mArgs (ma : M D) (mr : M (List D)) : M (List D) := fun σ A => (ma σ A).bind fun x A => (mr σ A).bind fun xs A => .ok (x :: xs) A
def mA (f : List D → List O → R D) (ma : M (List D)) : M D := fun σ A => (ma σ A).bind f
def lstOf (x : D) (A : List O) : Option (List D) := match x with
  | .lst ds => some ds
  | .ref n => match A[n]? with
    | some (.lst ds) => some ds
    | _ => none
  | _ => none
def seqOf (x : D) (A : List O) : Option (List D) := match x with
  | .scr ds => some ds
  | .tup ds => some ds
  | x => lstOf x A
def newL (fz : Bool) (ds : List D) (A : List O) : R D :=
  if ds.length < sizeLine then (if fz then .ok (.lst ds) A else .ok (.ref A.length) (A ++ [.lst ds])) else .no
section
variable {g : G} {W : Hp} {ρ : List Addr} {A : List O} {H : Hp}
theorem lstOf_ok {x : D} {v : V} {ds : List D} (hR : Rl g W ρ A H) (r : VR g W ρ x v) (h : lstOf x A = some ds) : ∃ a vs, v = .ref a ∧ H a = some (.lst vs) ∧ VRs g W ρ ds vs := by
  cases r with
  | lst h1 r1 => cases h; exact ⟨_, _, rfl, hR.ext _ _ h1, r1⟩
  | @ref n a h1 =>
    unfold lstOf at h
    simp only at h
    split at h
    · rename_i ds' e
      cases h
      obtain ⟨vs, e2, r2⟩ := hR.obj n _ a e h1
      exact ⟨_, _, rfl, e2, r2⟩
    · cases h
  | _ => cases h
theorem sqL_up {a : Addr} {vs : List V} (hR : Rl g W ρ A H) (h : SqL g.K W a vs) : SqL g.K H a vs := sqL_mono hR.ext h
theorem sqT_up {a : Addr} {vs : List V} (hR : Rl g W ρ A H) (h : SqT g.K W a vs) : SqT g.K H a vs := sqT_mono hR.ext h
theorem seqOf_ok {x : D} {v : V} {ds : List D} (hR : Rl g W ρ A H) (r : VR g W ρ x v) (h : seqOf x A = some ds) : ∃ a vs, v = .ref a ∧ (SqL g.K H a vs ∨ SqT g.K H a vs) ∧ VRs g W ρ ds vs := by
  cases r with
  | scr h1 r1 => cases h; exact ⟨_, _, rfl, .inl (sqL_up hR h1), r1⟩
  | tup h1 r1 => cases h; exact ⟨_, _, rfl, .inr (sqT_up hR h1), r1⟩
  | lst h1 r1 => cases h; exact ⟨_, _, rfl, .inl (SqL.of (hR.ext _ _ h1)), r1⟩
  | @ref n a h1 =>
    obtain ⟨a, vs, e, h2, r2⟩ := lstOf_ok hR (.ref h1) h
    exact ⟨a, vs, e, .inl (SqL.of h2), r2⟩
  | _ => cases h
theorem newL_post {EX : WX} {σ : L2.St} {fz : Bool} {ds : List D} {vs : List V} {Q : VK} {p : Addr} (hR : Rl g W ρ A H) (r : VRs g W ρ ds vs) (h : Post g (VR g) EX W ρ H σ (newL fz ds A) Q) (hp : H p = none) : Q (.ref p) (upd H p (.lst vs)) := by
  unfold newL at h
  split at h
  · cases fz with
    | true =>
      obtain ⟨e, R2⟩ := hR.newW (ho := .lst vs) hp
      exact h _ _ _ _ e R2 (.lst upd_same (r.mono e.ex))
    | false =>
      have e0 : Ex2 W ρ W (ρ ++ [p]) := ⟨fun _ _ q => q, fun n a q => by
        rw [List.getElem?_append_left (List.getElem?_eq_some_iff.mp q).1]; exact q⟩
      obtain ⟨e, R2, hl⟩ := hR.new (o := .lst ds) (ho := .lst vs) hp ⟨vs, rfl, r.mono e0⟩
      exact h _ _ _ _ e R2 (.ref hl)
  · exact h.elim
theorem newL_len {EX : WX} {σ : L2.St} {fz : Bool} {ds : List D} {Q : VK} (h : Post g (VR g) EX W ρ H σ (newL fz ds A) Q) : ds.length < sizeLine := by
  unfold newL at h
  split at h
  · assumption
  · exact h.elim
theorem newT_post {EX : WX} {σ : L2.St} {ds : List D} {vs : List V} {Q : VK} {p : Addr} (hR : Rl g W ρ A H) (r : VRs g W ρ ds vs) (h : Post g (VR g) EX W ρ H σ (.ok (.tup ds) A) Q) (hp : H p = none) : Q (.ref p) (upd H p (.tup vs)) := by
  obtain ⟨e, R2⟩ := hR.newW (ho := .tup vs) hp
  exact h _ _ _ _ e R2 (.tup (.inl (.inl upd_same)) (r.mono e.ex))
theorem Post.val {α β : Type} {rel : Hp → List Addr → α → β → Prop} {EX : WX} {σ : L2.St} {d : α} {v : β} {Q : β → Hp → Prop} (hR : Rl g W ρ A H) (r : rel W ρ d v) (h : Post g rel EX W ρ H σ (.ok d A) Q) : Q v H := h _ _ _ _ (Ext.refl W ρ H) hR r
end
def pyFlat : D → Option PyData
  | .non => some .none
  | .bl b => some (.bool b)
  | .int i => some (.int i)
  | .str s => some (.str s)
  | _ => none
def pys (f : D → Option PyData) : List D → Option (List PyData)
  | [] => some []
  | d :: ds => (f d).bind fun x => (pys f ds).map fun xs => x :: xs
def py (A : List O) : Nat → D → Option PyData
  | 0, d => pyFlat d
  | k + 1, d => match d with
    | .tup ds => (pys (py A k) ds).map .tuple
    | .lst ds => (pys (py A k) ds).map .list
    | .scr ds => (pys (py A k) ds).map .list
    | .ref n => match A[n]? with
      | some (.lst ds) => (pys (py A k) ds).map .list
      | _ => none
    | d => pyFlat d
section
variable {g : G} {W : Hp} {ρ : List Addr} {A : List O} {H : Hp}
theorem pys_of {f : D → Option PyData} (one : ∀ {d : D} {v : V} {x : PyData}, VR g W ρ d v → f d = some x → Dp g.K H v x) : ∀ {ds : List D} {vs : List V} {xs : List PyData}, VRs g W ρ ds vs → pys f ds = some xs → DpAll g.K H vs xs
  | _, _, _, .nil, h => by cases h; exact .nil
  | _, _, _, .cons r1 r2, h => by
    obtain ⟨x, h1, h⟩ := Option.bind_eq_some_iff.mp h
    obtain ⟨xs, h2, rfl⟩ := Option.map_eq_some_iff.mp h
    exact .cons (one r1 h1) (pys_of one r2 h2)
theorem pyFlat_ok {d : D} {v : V} {x : PyData} (r : VR g W ρ d v) (h : pyFlat d = some x) : Dp g.K H v x := by
  cases r with
  | non => cases h; exact .non
  | bl b => cases h; exact .bl b
  | int i => cases h; exact .int i
  | str s => cases h; exact .str s
  | _ => cases h
theorem py_ok (hR : Rl g W ρ A H) : ∀ {k : Nat} {d : D} {v : V} {x : PyData}, VR g W ρ d v → py A k d = some x → Dp g.K H v x := by
  intro k
  induction k with
  | zero =>
    intro d v x r h
    exact pyFlat_ok r h
  | succ k ih =>
    intro d v x r h
    cases r with
    | tup h1 r1 =>
      obtain ⟨xs, h2, rfl⟩ := Option.map_eq_some_iff.mp h
      exact .tup (sqT_up hR h1) (pys_of ih r1 h2)
    | lst h1 r1 =>
      obtain ⟨xs, h2, rfl⟩ := Option.map_eq_some_iff.mp h
      exact .lst (SqL.of (hR.ext _ _ h1)) (pys_of ih r1 h2)
    | scr h1 r1 =>
      obtain ⟨xs, h2, rfl⟩ := Option.map_eq_some_iff.mp h
      exact .lst (sqL_up hR h1) (pys_of ih r1 h2)
    | @ref n a h1 =>
      unfold py at h
      simp only at h
      split at h
      · rename_i ds e
        obtain ⟨xs, h2, rfl⟩ := Option.map_eq_some_iff.mp h
        obtain ⟨vs, e2, r2⟩ := hR.obj n _ a e h1
        exact .lst (SqL.of e2) (pys_of ih r2 h2)
      · cases h
    | non => cases h; exact .non
    | bl b => cases h; exact .bl b
    | int i => cases h; exact .int i
    | str s => cases h; exact .str s
    | ty n => cases h
    | cls c => cases h
    | rng h1 => cases h
    | obj => cases h
    | dk => cases h
    | dz => cases h
    | dw => cases h
    | db => cases h
    | exc => cases h
end
def OpS (g : G) (r : R2) (f : D → D → List O → R D) : Prop :=
  ∀ {EX : WX} {W : Hp} {ρ : List Addr} {A : List O} {H : Hp} {σ : L2.St} {x y : D} {v u : V} {Q : VK}, Rl g W ρ A H → VR g W ρ x v → VR g W ρ y u → Post g (VR g) EX W ρ H σ (f x y A) Q → r v u H Q
def CallS (g : G) (r : List V → Hp → VK → Prop) (f : List D → List O → R D) : Prop :=
  ∀ {EX : WX} {W : Hp} {ρ : List Addr} {A : List O} {H : Hp} {σ : L2.St} {xs : List D} {vs : List V} {Q : VK}, Rl g W ρ A H → VRs g W ρ xs vs → Post g (VR g) EX W ρ H σ (f xs A) Q → r vs H Q
section
variable {X : Cx} {c : String → Addr} {EX : WX}
theorem se_var (i : Nat) {x : Str} {pos : Pos} (hN : X.N[i]? = some x := by rfl) (hv : Vis X.env.scope x := by first | exact Or.inl rfl | exact Or.inr (Or.inl rfl) | exact Or.inr (Or.inr rfl)) (hd : (x == ("__debug__" : Str)) = false := by decide)
    (hcd : (x == ("__classdict__" : Str)) = false := by decide) : PE X (.Name x pos) (tE ⟨X.K, c, X.w⟩ EX (mVar i)) :=
  PE.imp (pe_var hN hv hd hcd) fun σ H Q h => by
    obtain ⟨W, ρ, A, σd, hR, hE, hP⟩ := h
    unfold mVar at hP
    split at hP
    · rename_i d e
      obtain ⟨v, h1, h2⟩ := hE.at_ i d e
      exact ⟨v, h1, Post.val hR h2 hP⟩
    · exact hP.elim
theorem se_c {e : Expr} {v : V} {d : D} (h : PE X e (tC v)) (r : ∀ W ρ, VR ⟨X.K, c, X.w⟩ W ρ d v) : PE X e (tE ⟨X.K, c, X.w⟩ EX (mC d)) :=
  PE.imp h fun σ H Q h => by
    obtain ⟨W, ρ, A, σd, hR, hE, hP⟩ := h
    exact Post.val hR (r W ρ) hP
theorem se_int {i j pos} : PE X (.Constant (.int i) j pos) (tE ⟨X.K, c, X.w⟩ EX (mC (.int i))) := se_c pe_int fun _ _ => .int i
theorem se_bl {b j pos} : PE X (.Constant (.bool b) j pos) (tE ⟨X.K, c, X.w⟩ EX (mC (.bl b))) := se_c pe_bl fun _ _ => .bl b
theorem se_non {j pos} : PE X (.Constant .none j pos) (tE ⟨X.K, c, X.w⟩ EX (mC .non)) := se_c pe_non fun _ _ => .non
theorem se_str {x j pos} : PE X (.Constant (.str x) j pos) (tE ⟨X.K, c, X.w⟩ EX (mC (.str x))) := se_c pe_str fun _ _ => .str x
variable {a b : Expr} {ma mb : M D} {pos : Pos}
theorem se_op {op : Operator} {r : R2} {f : D → D → List O → R D} (ho : OpR X (binaryOp op) r) (hs : OpS ⟨X.K, c, X.w⟩ r f) (ha : PE X a (tE ⟨X.K, c, X.w⟩ EX ma)) (hb : PE X b (tE ⟨X.K, c, X.w⟩ EX mb)) : PE X (.BinOp a op b pos) (tE ⟨X.K, c, X.w⟩ EX (m2 f ma mb)) :=
  PE.imp (pe_op ho ha hb) fun σ H Q h =>
    (tM.bind2 (rel := VR ⟨X.K, c, X.w⟩) (rel2 := VR ⟨X.K, c, X.w⟩) (m := ma) (m2 := mb) (f := f) (fun e r => VR.mono e r) h).weak fun v H1 q => q.weak fun u H2 ⟨W, ρ, A, x, y, hR, rx, ry, hP⟩ => hs hR rx ry hP
theorem se_cmp {op : CmpOp} {r : R2} {f : D → D → List O → R D} (ho : OpR X (compareOp op) r) (hs : OpS ⟨X.K, c, X.w⟩ r f) (ha : PE X a (tE ⟨X.K, c, X.w⟩ EX ma)) (hb : PE X b (tE ⟨X.K, c, X.w⟩ EX mb)) (hm : behindInMarks op b = false := by first | exact nomark _ | rfl) : PE X (.Compare a [op] [b] pos) (tE ⟨X.K, c, X.w⟩ EX (m2 f ma mb)) :=
  PE.imp (pe_cmpR ho ha hb hm) fun σ H Q h =>
    (tM.bind2 (rel := VR ⟨X.K, c, X.w⟩) (rel2 := VR ⟨X.K, c, X.w⟩) (m := ma) (m2 := mb) (f := f) (fun e r => VR.mono e r) h).weak fun v H1 q => q.weak fun u H2 ⟨W, ρ, A, x, y, hR, rx, ry, hP⟩ => hs hR rx ry hP
def mChain (f f' : D → D → List O → R D) (ma mb mc : M D) : M D := fun σ A => (ma σ A).bind fun x A => (mb σ A).bind fun y A => (f x y A).bind fun z A => match z with
  | .bl true => (mc σ A).bind fun w A => f' y w A
  | .bl false => .ok (.bl false) A
  | _ => .no
end
def dAdd (fz : Bool) (x y : D) (A : List O) : R D := match x, y with
  | .int i, .int j => .ok (.int (i + j)) A
  | .int i, .bl j => .ok (.int (i + PyProof.Rows.b2i j)) A
  | .str i, .str j => if i.length + j.length ≤ sizeLine then .ok (.str (i ++ j)) A else .no
  | .tup xs, .tup ys => if xs.length + ys.length ≤ sizeLine then .ok (.tup (xs ++ ys)) A else .no
  | x, y => match lstOf x A, lstOf y A with
    | some xs, some ys => newL fz (xs ++ ys) A
    | _, _ => .no
def dSub (x y : D) (A : List O) : R D := match x, y with
  | .int i, .int j => .ok (.int (i - j)) A
  | _, _ => .no
section
noncomputable local instance (priority := 10000) clsc (p : Prop) : Decidable p := Classical.propDecidable p
noncomputable def dMul (x y : D) (A : List O) : R D := match x, y with
  | .int i, .int j => if (-(2 ^ 64) < i ∧ i < 2 ^ 64) ∨ (-(2 ^ 64) < j ∧ j < 2 ^ 64) then .ok (.int (i * j)) A else .no
  | _, _ => .no
noncomputable def dMod (x y : D) (A : List O) : R D := match x, y with
  | .int i, .int j => if 0 < j then .ok (.int (i % j)) A else .no
  | _, _ => .no
noncomputable def dFdiv (x y : D) (A : List O) : R D := match x, y with
  | .int i, .int j => if 0 < j ∧ j.natAbs < 2 ^ 8999 then .ok (.int (i / j)) A else .no
  | _, _ => .no
noncomputable def dPow (x y : D) (A : List O) : R D := match x, y with
  | .int i, .int j => if 0 ≤ j ∧ j ≤ 1000000 ∧ i.natAbs < 2 ^ 64 then .ok (.int (i ^ j.toNat)) A else .no
  | _, _ => .no
noncomputable def dShl (x y : D) (A : List O) : R D := match x, y with
  | .int i, .int j => if 0 ≤ j ∧ j ≤ 1000000 ∧ i.natAbs < 2 ^ 64 then .ok (.int (i * 2 ^ j.toNat)) A else .no
  | _, _ => .no
noncomputable def dShr (x y : D) (A : List O) : R D := match x, y with
  | .int i, .int j => if 0 ≤ j then .ok (.int (i / 2 ^ j.toNat)) A else .no
  | _, _ => .no
end
def dBand (x y : D) (A : List O) : R D := match x, y with
  | .int i, .int j => .ok (.int (Builtin.bitAnd i j)) A
  | _, _ => .no
def dNeg (x : D) (A : List O) : R D := match x with
  | .int i => .ok (.int (-i)) A
  | _ => .no
def dLt (x y : D) (A : List O) : R D := match x, y with
  | .int i, .int j => .ok (.bl (decide (i < j))) A
  | _, _ => .no
def dLe (x y : D) (A : List O) : R D := match x, y with
  | .int i, .int j => .ok (.bl (decide (i ≤ j))) A
  | _, _ => .no
def dGt (x y : D) (A : List O) : R D := match x, y with
  | .int i, .int j => .ok (.bl (decide (j < i))) A
  | _, _ => .no
def dGe (x y : D) (A : List O) : R D := match x, y with
  | .int i, .int j => .ok (.bl (decide (j ≤ i))) A
  | _, _ => .no
def dEqD (x y : D) (A : List O) : R D := match py A 64 x, py A 64 y with
  | some a, some b => if SeqAt.shaped a && SeqAt.shaped b then .ok (.bl (PyData.eqv a b)) A else .no
  | _, _ => .no
def dNeD (x y : D) (A : List O) : R D := match py A 64 x, py A 64 y with
  | some a, some b => if SeqAt.shaped a && SeqAt.shaped b then .ok (.bl (!PyData.eqv a b)) A else .no
  | _, _ => .no
def dEq (x y : D) (A : List O) : R D := match x, y with
  | .str s, .str t => .ok (.bl (decide (s = t))) A
  | x, y => dEqD x y A
def dNe (x y : D) (A : List O) : R D := match x, y with
  | .str s, .str t => .ok (.bl (!decide (s = t))) A
  | x, y => dNeD x y A
def isNon : D → Bool
  | .non => true
  | _ => false
def dIs (x y : D) (A : List O) : R D := match x, y with
  | x, .non => .ok (.bl (isNon x)) A
  | .bl a, .bl b => .ok (.bl (decide (a = b))) A
  | _, _ => .no
def dIsNot (x y : D) (A : List O) : R D := match x, y with
  | x, .non => .ok (.bl (!isNon x)) A
  | .bl a, .bl b => .ok (.bl (!decide (a = b))) A
  | _, _ => .no
def flatD : D → Bool
  | .non | .bl _ | .int _ | .str _ => true
  | _ => false
def eqF (x y : D) : Bool := match pyFlat x, pyFlat y with
  | some a, some b => PyData.eqv a b
  | _, _ => false
def dIn (neg : Bool) (x y : D) (A : List O) : R D := match x, y with
  | .str i, .str j => .ok (.bl (if neg then !(!(Builtin.Str.occurrences j i 0 j.length 1).isEmpty) else !(Builtin.Str.occurrences j i 0 j.length 1).isEmpty)) A
  | x, y => match seqOf y A with
    | some ys => if flatD x && ys.all flatD then .ok (.bl (if neg then !(ys.any fun z => eqF z x) else ys.any fun z => eqF z x)) A else .no
    | none => .no
section
variable {g : G} {W : Hp} {ρ : List Addr} {A : List O} {H : Hp}
def rAdd (K : PySem.W.Frag) : R2 := fun x y H Q => ((rI0 fun i j => .int (i + j)) x y H Q ∨ (∃ i k, x = .int i ∧ y = .bl k ∧ Q (.int (i + PyProof.Rows.b2i k)) H)) ∨ ((∃ i j, x = .str i ∧ y = .str j ∧ i.length + j.length ≤ sizeLine ∧ Q (.str (i ++ j)) H) ∨ (rCatA K x y H Q ∨ rCat x y H Q))
theorem op_addD {X : Cx} : OpR X (binaryOp .Add) (rAdd X.K) := (op_add.or op_add_ib).or (op_add_str.or (op_catA.or op_cat))
theorem os_add {fz : Bool} : OpS g (rAdd g.K) (dAdd fz) := by
  intro EX W ρ A H σ x y v u Q hR rx ry h
  have lists : Post g (VR g) EX W ρ H σ (match lstOf x A, lstOf y A with
    | some xs, some ys => newL fz (xs ++ ys) A
    | _, _ => .no) Q → rAdd g.K v u H Q := fun h => by
    split at h
    · rename_i xs ys e1 e2
      obtain ⟨a, vs, rfl, ha, r1⟩ := lstOf_ok hR rx e1
      obtain ⟨b, us, rfl, hb, r2⟩ := lstOf_ok hR ry e2
      refine .inr (.inr (.inr ⟨a, b, vs, us, rfl, rfl, ha, hb, ?_, fun p hp => newL_post hR (r1.append r2) h hp⟩))
      have := newL_len h
      rw [List.length_append] at this
      rw [← r1.length, ← r2.length]
      omega
    · exact h.elim
  cases rx with
  | int i =>
    cases ry with
    | int j => exact .inl (.inl ⟨i, j, rfl, rfl, Post.val hR (.int _) h⟩)
    | bl j => exact .inl (.inr ⟨i, j, rfl, rfl, Post.val hR (.int _) h⟩)
    | _ => exact lists h
  | str i =>
    cases ry with
    | str j =>
      unfold dAdd at h
      simp only at h
      split at h
      · rename_i hl
        exact .inr (.inl ⟨i, j, rfl, rfl, hl, Post.val hR (.str _) h⟩)
      · exact h.elim
    | _ => exact lists h
  | @tup xs a vs h1 r1 =>
    cases ry with
    | @tup ys b us h2 r2 =>
      unfold dAdd at h
      simp only at h
      split at h
      · rename_i hl
        refine .inr (.inr (.inl ⟨a, b, vs, us, rfl, rfl, sqT_up hR h1, sqT_up hR h2, by rw [← r1.length, ← r2.length]; exact hl, fun e => ?_, fun e1 e2 => ?_, fun e1 e2 p hp => ?_⟩))
        · have ex : xs = [] := List.eq_nil_of_length_eq_zero (by rw [r1.length, e]; rfl)
          subst ex
          exact Post.val hR (.tup h2 r2) h
        · have ey : ys = [] := List.eq_nil_of_length_eq_zero (by rw [r2.length, e2]; rfl)
          subst ey
          rw [List.append_nil] at h
          exact Post.val hR (.tup h1 r1) h
        · exact newT_post hR (r1.append r2) h hp
      · exact h.elim
    | _ => exact lists h
  | _ => exact lists h
theorem os_int {C : Int → Int → Prop} {f : Int → Int → Int} {d : D → D → List O → R D} (hd : ∀ {EX : WX} {W : Hp} {ρ : List Addr} {A : List O} {H : Hp} {σ : L2.St} {x y : D} {Q : VK}, Post g (VR g) EX W ρ H σ (d x y A) Q → ∃ i j, x = .int i ∧ y = .int j ∧ C i j ∧ d x y A = .ok (.int (f i j)) A) :
    OpS g (rI C fun i j => .int (f i j)) d := by
  intro EX W ρ A H σ x y v u Q hR rx ry h
  obtain ⟨i, j, rfl, rfl, hc, e⟩ := hd h
  rw [e] at h
  cases rx; cases ry
  exact ⟨i, j, rfl, rfl, hc, Post.val hR (.int _) h⟩
theorem os_int0 {f : Int → Int → Int} {d : D → D → List O → R D} (hd : ∀ {EX : WX} {W : Hp} {ρ : List Addr} {A : List O} {H : Hp} {σ : L2.St} {x y : D} {Q : VK}, Post g (VR g) EX W ρ H σ (d x y A) Q → ∃ i j, x = .int i ∧ y = .int j ∧ d x y A = .ok (.int (f i j)) A) :
    OpS g (rI0 fun i j => .int (f i j)) d := by
  intro EX W ρ A H σ x y v u Q hR rx ry h
  obtain ⟨i, j, rfl, rfl, e⟩ := hd h
  rw [e] at h
  cases rx; cases ry
  exact ⟨i, j, rfl, rfl, Post.val hR (.int _) h⟩
theorem os_cmp0 {f : Int → Int → Bool} {d : D → D → List O → R D} (hd : ∀ {EX : WX} {W : Hp} {ρ : List Addr} {A : List O} {H : Hp} {σ : L2.St} {x y : D} {Q : VK}, Post g (VR g) EX W ρ H σ (d x y A) Q → ∃ i j, x = .int i ∧ y = .int j ∧ d x y A = .ok (.bl (f i j)) A) :
    OpS g (rI0 fun i j => .bl (f i j)) d := by
  intro EX W ρ A H σ x y v u Q hR rx ry h
  obtain ⟨i, j, rfl, rfl, e⟩ := hd h
  rw [e] at h
  cases rx; cases ry
  exact ⟨i, j, rfl, rfl, Post.val hR (.bl _) h⟩
theorem os_sub : OpS g (rI0 fun i j => .int (i - j)) dSub := os_int0 fun {EX W ρ A H σ x y Q} h => by
  unfold dSub at h ⊢
  split at h
  · exact ⟨_, _, rfl, rfl, rfl⟩
  · exact h.elim
theorem os_mul : OpS g (rI CMul fun i j => .int (i * j)) dMul := os_int fun {EX W ρ A H σ x y Q} h => by
  unfold dMul at h ⊢
  split at h
  · split at h
    · rename_i hc; exact ⟨_, _, rfl, rfl, hc, if_pos hc⟩
    · exact h.elim
  · exact h.elim
theorem os_mod : OpS g (rI (fun _ j => 0 < j) fun i j => .int (i % j)) dMod := os_int fun {EX W ρ A H σ x y Q} h => by
  unfold dMod at h ⊢
  split at h
  · split at h
    · rename_i hc; exact ⟨_, _, rfl, rfl, hc, if_pos hc⟩
    · exact h.elim
  · exact h.elim
theorem os_fdiv : OpS g (rI CDivW fun i j => .int (i / j)) dFdiv := os_int fun {EX W ρ A H σ x y Q} h => by
  unfold dFdiv at h ⊢
  split at h
  · split at h
    · rename_i hc; exact ⟨_, _, rfl, rfl, wide_div (b := 8999) hc.1 hc.2 (by decide) (by decide), if_pos hc⟩
    · exact h.elim
  · exact h.elim
theorem os_pow : OpS g (rI CPow fun i j => .int (i ^ j.toNat)) dPow := os_int fun {EX W ρ A H σ x y Q} h => by
  unfold dPow at h ⊢
  split at h
  · split at h
    · rename_i hc; exact ⟨_, _, rfl, rfl, hc, if_pos hc⟩
    · exact h.elim
  · exact h.elim
theorem os_lt : OpS g (rI0 fun i j => .bl (decide (i < j))) dLt := os_cmp0 fun {EX W ρ A H σ x y Q} h => by
  unfold dLt at h ⊢
  split at h
  · exact ⟨_, _, rfl, rfl, rfl⟩
  · exact h.elim
theorem os_gt : OpS g (rI0 fun i j => .bl (decide (j < i))) dGt := os_cmp0 fun {EX W ρ A H σ x y Q} h => by
  unfold dGt at h ⊢
  split at h
  · exact ⟨_, _, rfl, rfl, rfl⟩
  · exact h.elim
theorem os_ge : OpS g (rI0 fun i j => .bl (decide (j ≤ i))) dGe := os_cmp0 fun {EX W ρ A H σ x y Q} h => by
  unfold dGe at h ⊢
  split at h
  · exact ⟨_, _, rfl, rfl, rfl⟩
  · exact h.elim
theorem os_eqD : OpS g (rEqD g.K) dEqD := by
  intro EX W ρ A H σ x y v u Q hR rx ry h
  unfold dEqD at h
  split at h
  · rename_i a b e1 e2
    split at h
    · rename_i hs
      obtain ⟨s1, s2⟩ := Bool.and_eq_true_iff.mp hs
      exact ⟨a, b, py_ok hR rx e1, py_ok hR ry e2, s1, s2, Post.val hR (.bl _) h⟩
    · exact h.elim
  · exact h.elim
theorem os_neD : OpS g (rNeD g.K) dNeD := by
  intro EX W ρ A H σ x y v u Q hR rx ry h
  unfold dNeD at h
  split at h
  · rename_i a b e1 e2
    split at h
    · rename_i hs
      obtain ⟨s1, s2⟩ := Bool.and_eq_true_iff.mp hs
      exact ⟨a, b, py_ok hR rx e1, py_ok hR ry e2, s1, s2, Post.val hR (.bl _) h⟩
    · exact h.elim
  · exact h.elim
def rEqS (K : PySem.W.Frag) : R2 := fun x y H Q => rEqD K x y H Q ∨ rEq x y H Q
theorem op_eqS {X : Cx} (hu : X.A.units + 64 < cLine) : OpR X (compareOp .Eq) (rEqS X.K) := (op_eqD hu).or op_eq
theorem os_eq : OpS g (rEqS g.K) dEq := by
  intro EX W ρ A H σ x y v u Q hR rx ry h
  have lists : Post g (VR g) EX W ρ H σ (dEqD x y A) Q → rEqS g.K v u H Q := fun h => .inl (os_eqD hR rx ry h)
  cases rx with
  | str i =>
    cases ry with
    | str j =>
      refine .inr ⟨rfl, ?_⟩
      have e : decide (V.str i = V.str j) = decide (i = j) := by simp
      rw [e]
      exact Post.val hR (.bl _) h
    | _ => exact lists h
  | _ => exact lists (by cases ry <;> exact h)
def rNeS (K : PySem.W.Frag) : R2 := fun x y H Q => rNeD K x y H Q ∨ rNe x y H Q
theorem op_neS {X : Cx} (hu : X.A.units + 64 < cLine) : OpR X (compareOp .NotEq) (rNeS X.K) := (op_neD hu).or op_ne
theorem os_ne : OpS g (rNeS g.K) dNe := by
  intro EX W ρ A H σ x y v u Q hR rx ry h
  have lists : Post g (VR g) EX W ρ H σ (dNeD x y A) Q → rNeS g.K v u H Q := fun h => .inl (os_neD hR rx ry h)
  cases rx with
  | str i =>
    cases ry with
    | str j =>
      refine .inr ⟨rfl, ?_⟩
      have e : decide (V.str i = V.str j) = decide (i = j) := by simp
      rw [e]
      exact Post.val hR (.bl _) h
    | _ => exact lists h
  | _ => exact lists (by cases ry <;> exact h)
theorem VR.non_iff {d : D} {v : V} (r : VR g W ρ d v) : isNon d = decide (v = .non) := by
  cases r with
  | non => rfl
  | _ => exact (decide_eq_false (fun z => nomatch z)).symm
def rIsX : R2 := fun x y H Q => (y = .non ∧ Q (.bl (decide (x = .non))) H) ∨ rIsB x y H Q
theorem op_isX {X : Cx} : OpR X (compareOp .Is) rIsX := op_isN.or op_isBl
theorem os_is : OpS g rIsX dIs := by
  intro EX W ρ A H σ x y v u Q hR rx ry h
  cases ry with
  | non =>
    refine .inl ⟨rfl, ?_⟩
    rw [← rx.non_iff]
    exact Post.val hR (.bl _) h
  | bl b =>
    cases rx with
    | bl a => exact .inr ⟨a, b, rfl, rfl, Post.val hR (.bl _) h⟩
    | _ => exact h.elim
  | _ => cases rx <;> exact h.elim
end
end Vi
end
section
namespace Vi
open PySem PySem.Spec L2
section
variable {g : G} {W : Hp} {ρ : List Addr} {A : List O} {H : Hp}
theorem flat_of {d : D} {v : V} (r : VR g W ρ d v) (h : flatD d = true) : flatV v = true := by
  cases r with
  | non | bl | int | str => rfl
  | _ => cases h
theorem eqF_of {d e : D} {v u : V} (r : VR g W ρ d v) (s : VR g W ρ e u) (h1 : flatD d = true) (h2 : flatD e = true) : eqF d e = eqV v u := by
  cases r with
  | non => cases s with
    | non | bl | int | str => rfl
    | _ => cases h2
  | bl => cases s with
    | non | bl | int | str => rfl
    | _ => cases h2
  | int => cases s with
    | non | bl | int | str => rfl
    | _ => cases h2
  | str => cases s with
    | non | bl | int | str => rfl
    | _ => cases h2
  | _ => cases h1
theorem flats_of : ∀ {ds : List D} {vs : List V}, VRs g W ρ ds vs → ds.all flatD = true → vs.all flatV = true
  | _, _, .nil, _ => rfl
  | _, _, .cons r t, h => by
    rw [List.all_cons, Bool.and_eq_true] at h
    rw [List.all_cons, flat_of r h.1, flats_of t h.2]
    rfl
theorem any_of {x : D} {v : V} (r : VR g W ρ x v) (hx : flatD x = true) : ∀ {ds : List D} {vs : List V}, VRs g W ρ ds vs → ds.all flatD = true → (ds.any fun z => eqF z x) = inV v vs
  | _, _, .nil, _ => rfl
  | _, _, .cons q t, h => by
    rw [List.all_cons, Bool.and_eq_true] at h
    rw [List.any_cons, eqF_of q r h.1 hx, any_of r hx t h.2]
    rfl
def rInX (K : PySem.W.Frag) (neg : Bool) : R2 := fun x y H Q => (∃ i j, x = .str i ∧ y = .str j ∧ Q (.bl (if neg then !(!(Builtin.Str.occurrences j i 0 j.length 1).isEmpty) else !(Builtin.Str.occurrences j i 0 j.length 1).isEmpty)) H) ∨ rIn K neg x y H Q
theorem op_inX {X : Cx} : OpR X (compareOp .In) (rInX X.K false) := op_in_str.or op_in_seq
theorem os_in {neg : Bool} : OpS g (rInX g.K neg) (dIn neg) := by
  intro EX W ρ A H σ x y v u Q hR rx ry h
  have seqs : Post g (VR g) EX W ρ H σ (match seqOf y A with
    | some ys => if flatD x && ys.all flatD then .ok (.bl (if neg then !(ys.any fun z => eqF z x) else ys.any fun z => eqF z x)) A else .no
    | none => .no) Q → rInX g.K neg v u H Q := fun h => by
    split at h
    · rename_i ys e
      split at h
      · rename_i hf
        obtain ⟨f1, f2⟩ := Bool.and_eq_true_iff.mp hf
        obtain ⟨a, vs, rfl, hq, r2⟩ := seqOf_ok hR ry e
        refine .inr ⟨a, vs, rfl, hq, flat_of rx f1, flats_of r2 f2, ?_⟩
        rw [← any_of rx f1 r2 f2]
        exact Post.val hR (.bl _) h
      · exact h.elim
    · exact h.elim
  cases rx with
  | str i =>
    cases ry with
    | str j => exact .inl ⟨i, j, rfl, rfl, Post.val hR (.bl _) h⟩
    | _ => exact seqs h
  | _ => exact seqs h
end
def dIx (x y : D) (A : List O) : R D := match x, y with
  | .str z, .int i => if z.length ≤ sizeLine then (match atI z.cps.toList i with
    | some c => .ok (.str ⟨#[c]⟩) A
    | none => .no) else .no
  | x, .int i => match seqOf x A with
    | some ds => match atI ds i with
      | some d => .ok d A
      | none => .no
    | none => .no
  | _, _ => .no
def cutD {α : Type} (xs : List α) (lo hi : Option Int) : List α := (xs.drop (HT.sIx xs.length 0 lo)).take (HT.sIx xs.length xs.length hi - HT.sIx xs.length 0 lo)
def dSl (fz : Bool) (x : D) (lo hi : Option Int) (A : List O) : R D := match x with
  | .tup ds => .ok (.tup (cutD ds lo hi)) A
  | .scr ds => newL fz (cutD ds lo hi) A
  | x => match lstOf x A with
    | some ds => newL fz (cutD ds lo hi) A
    | none => .no
section
variable {g : G} {W : Hp} {ρ : List Addr} {A : List O} {H : Hp}
theorem VRs.at {ds : List D} {vs : List V} {i : Int} {d : D} (r : VRs g W ρ ds vs) (h : atI ds i = some d) : ∃ v, atI vs i = some v ∧ VR g W ρ d v := by
  unfold atI at h ⊢
  rw [r.length] at h
  obtain ⟨j, h1, h2⟩ := Option.bind_eq_some_iff.mp h
  obtain ⟨v, h3, h4⟩ := r.get h2
  exact ⟨v, by rw [h1]; exact h3, h4⟩
def rIxX (K : PySem.W.Frag) : R2 := fun x y H Q => rIxL K x y H Q ∨ (rIxT K x y H Q ∨ rIxS x y H Q)
theorem ix_any {X : Cx} : IxR X (rIxX X.K) := ix_list.or (ix_tup.or ix_str)
theorem os_ix : OpS g (rIxX g.K) dIx := by
  intro EX W ρ A H σ x y v u Q hR rx ry h
  cases ry with
  | int i =>
    have seqs : Post g (VR g) EX W ρ H σ (match seqOf x A with
      | some ds => match atI ds i with
        | some d => .ok d A
        | none => .no
      | none => .no) Q → rIxX g.K v (.int i) H Q := fun h => by
      split at h
      · rename_i ds e
        split at h
        · rename_i d e2
          obtain ⟨a, vs, rfl, hq, r2⟩ := seqOf_ok hR rx e
          obtain ⟨z, e3, r3⟩ := r2.at e2
          rcases hq with hq | hq
          · exact .inl ⟨a, vs, i, z, rfl, rfl, hq, e3, Post.val hR r3 h⟩
          · exact .inr (.inl ⟨a, vs, i, z, rfl, rfl, hq, e3, Post.val hR r3 h⟩)
        · exact h.elim
      · exact h.elim
    cases rx with
    | str z =>
      unfold dIx at h
      simp only at h
      split at h
      · rename_i hz
        split at h
        · rename_i c' e
          exact .inr (.inr ⟨z, i, c', rfl, rfl, hz, e, Post.val hR (.str _) h⟩)
        · exact h.elim
      · exact h.elim
    | _ => exact seqs h
  | _ => cases rx <;> exact h.elim
def mSl (fz : Bool) (ma : M D) (ml mh : M (Option Int)) : M D := fun σ A => (ma σ A).bind fun x A => (ml σ A).bind fun lo A => (mh σ A).bind fun hi A => dSl fz x lo hi A
def mNoPart : M (Option Int) := fun _ A => .ok none A
def mPart (ma : M D) : M (Option Int) := fun σ A => (ma σ A).bind fun x A => match x with
  | .int i => .ok (some i) A
  | _ => .no
section
variable {X : Cx} {c : String → Addr} {EX : WX} {ma : M D} {e : Expr}
theorem se_ix {b : Expr} {mb : M D} {pos : Pos} (ha : PE X e (tE ⟨X.K, c, X.w⟩ EX ma)) (hb : PE X b (tE ⟨X.K, c, X.w⟩ EX mb)) (hs : PlainIx b := by exact fun _ _ => rfl) : PE X (.Subscript e b pos) (tE ⟨X.K, c, X.w⟩ EX (m2 dIx ma mb)) :=
  PE.imp (pe_ix ix_any ha hb hs) fun σ H Q h =>
    (tM.bind2 (rel := VR ⟨X.K, c, X.w⟩) (rel2 := VR ⟨X.K, c, X.w⟩) (m := ma) (m2 := mb) (f := dIx) (fun e r => VR.mono e r) h).weak fun v H1 q => q.weak fun u H2 ⟨W, ρ, A, x, y, hR, rx, ry, hP⟩ => os_ix hR rx ry hP
theorem sa_nil : PA X [] (tA ⟨X.K, c, X.w⟩ EX mArgs0) := PA.imp pa_nil fun σ H Q h => by
  obtain ⟨W, ρ, A, σd, hR, hE, hP⟩ := h
  exact Post.val hR .nil hP
theorem sa_cons {es : List Expr} {mr : M (List D)} (ha : PE X e (tE ⟨X.K, c, X.w⟩ EX ma)) (hr : PA X es (tA ⟨X.K, c, X.w⟩ EX mr)) (hs : starEach (e :: es) X.env = (false, eval e X.env) :: starEach es X.env := by rfl) : PA X (e :: es) (tA ⟨X.K, c, X.w⟩ EX (mArgs ma mr)) :=
  PA.imp (pa_cons ha hr hs) fun σ H Q h =>
    (tM.bind2 (rel := VR ⟨X.K, c, X.w⟩) (rel2 := VRs ⟨X.K, c, X.w⟩) (m := ma) (m2 := mr) (f := fun x xs A => .ok (x :: xs) A) (fun e r => VR.mono e r) h).weak fun v H1 q => q.weak fun u H2 ⟨W, ρ, A, x, y, hR, rx, ry, hP⟩ => Post.val hR (.cons rx ry) hP
def fTup (xs : List D) (A : List O) : R D := if xs.length ≤ sizeLine then .ok (.tup xs) A else .no
variable {es : List Expr} {mr : M (List D)} {pos : Pos}
theorem se_lst {fz : Bool} (h : PA X es (tA ⟨X.K, c, X.w⟩ EX mr)) : PE X (.List es pos) (tE ⟨X.K, c, X.w⟩ EX (mA (newL fz) mr)) :=
  PE.imp (pe_lst h) fun σ H Q h =>
    (tM.bind (rel := VRs ⟨X.K, c, X.w⟩) (m := mr) (f := fun _ => newL fz) h).weak fun v H1 ⟨W, ρ, A, σd, x, hR, hE, rx, hP⟩ => by
      have := newL_len hP
      exact ⟨by rw [← rx.length]; omega, fun p hp => newL_post hR rx hP hp⟩
theorem se_callB {id : String} {r : List V → Hp → VK → Prop} {f : List D → List O → R D} {x : Str} {p : Pos} (hc : CallR X (.builtin id) r) (hs : CallS ⟨X.K, c, X.w⟩ r f) (hg : Gl X x) (hm : X.mg x = none) (hv : bootBuiltins x = some (.builtin id)) (ha : PA X (e :: es) (tA ⟨X.K, c, X.w⟩ EX mr))
    (hn : x ≠ "__name__" := by decide) (hdb : (x == ("__debug__" : Str)) = false := by decide)
    (he : starEach (e :: es) X.env = (false, eval e X.env) :: starEach es X.env := by rfl) (hpl : (backTo pos (starEach es X.env)).any (·.1) = false := by rfl) : PE X (.Call (.Name x p) (e :: es) [] pos) (tE ⟨X.K, c, X.w⟩ EX (mA f mr)) :=
  PE.imp (pe_callB hc hg hm hv ha hn hdb he hpl) fun σ H Q h =>
    (tM.bind (rel := VRs ⟨X.K, c, X.w⟩) (m := mr) (f := fun _ => f) h).weak fun v H1 ⟨W, ρ, A, σd, x, hR, hE, rx, hP⟩ => hs hR rx hP
theorem se_callTy {T : String} {r : List V → Hp → VK → Prop} {f : List D → List O → R D} {x : Str} {p : Pos} (hc : CallR X (.type T) r) (hs : CallS ⟨X.K, c, X.w⟩ r f) (hg : Gl X x) (hm : X.mg x = none) (hv : bootBuiltins x = some (.type T)) (ha : PA X (e :: es) (tA ⟨X.K, c, X.w⟩ EX mr))
    (hn : x ≠ "__name__" := by decide) (hdb : (x == ("__debug__" : Str)) = false := by decide)
    (he : starEach (e :: es) X.env = (false, eval e X.env) :: starEach es X.env := by rfl) (hpl : (backTo pos (starEach es X.env)).any (·.1) = false := by rfl) : PE X (.Call (.Name x p) (e :: es) [] pos) (tE ⟨X.K, c, X.w⟩ EX (mA f mr)) :=
  PE.imp (pe_callTy hc hg hm hv ha hn hdb he hpl) fun σ H Q h =>
    (tM.bind (rel := VRs ⟨X.K, c, X.w⟩) (m := mr) (f := fun _ => f) h).weak fun v H1 ⟨W, ρ, A, σd, x, hR, hE, rx, hP⟩ => hs hR rx hP
end
end
end Vi
end
section
namespace Vi
open PySem PySem.Spec L2
open PyProof.Rows (envOfC)
structure RoomG (k : Nat) (A : Around) : Prop where
  room : Room k A
  gd : A.guards = some []
theorem RoomG.mono {j k : Nat} {A : Around} (r : RoomG k A) (h : j ≤ k) : RoomG j A := ⟨r.room.mono h, r.gd⟩
theorem RoomG.deeper {k : Nat} {A : Around} (r : RoomG (k + 1) A) (env : PySem.Env) : RoomG k (A.deeper env) := ⟨r.room.deeper env, r.gd⟩
structure FunX (K : PySem.W.Frag) (x qual : Str) (st : Stmt) (f : Addr) (fd : FuncData) : Prop where
  ex : ∃ (oc : Value) (od : Option Addr) (dV kV doc pm : Value) (an : Option Addr) (cdv ct : Value) (osl : Array (Option Value)),
    fd = PySem.W.fnOf x qual (defArgs st) (defBody st) (defScope st) dV kV doc pm an cdv ct ∧ K.lookup f = some ⟨oc, od, .func fd, osl⟩ ∧ PySem.W.codeIn K cdv qual = true
  kp : PySem.W.keepIn K (.ref f) = true
theorem funx_mk {K : PySem.W.Frag} {x qual : Str} {st : Stmt} {f : Addr} {oc : Value} {od an : Option Addr} {osl : Array (Option Value)} {dV kV doc pm cdv ct : Value} (l : K.lookup f = some ⟨oc, od, .func (PySem.W.fnOf x qual (defArgs st) (defBody st) (defScope st) dV kV doc pm an cdv ct), osl⟩)
    (c : PySem.W.codeIn K cdv qual = true) (k : PySem.W.keepIn K (.ref f) = true) : FunX K x qual st f (PySem.W.fnOf x qual (defArgs st) (defBody st) (defScope st) dV kV doc pm an cdv ct) := ⟨⟨oc, od, dV, kV, doc, pm, an, cdv, ct, osl, rfl, l, c⟩, k⟩
structure FnG (P : Program) (w : World) (K : PySem.W.Frag) (mg : Str → Option Value) (base : Heap) (k : Nat) (f : Addr) (fd : FuncData) (ps : List Str) (sp : Sp) : Prop where
  len : ∀ vs H Q E, sp vs H Q E → vs.length = ps.length
  run : ∀ (A : Around) (outer : List PySem.Env) (s : Shared) (H : Hp) (args : Args) (us : List Value) (vs : List V) (Q : VK) (E : XK), RoomG k A → Env0 P w K mg base A outer s H → BindsTo s fd args (ps.zip us) → Vals vs us → sp vs H Q E →
    codeAny (model P w) A (.call (.ref f) args) (CR (L2.CX P w) outer P w H s Q E) s
theorem FnG.mono {P : Program} {w : World} {K : PySem.W.Frag} {mg : Str → Option Value} {base : Heap} {j k : Nat} {f : Addr} {fd : FuncData} {ps : List Str} {sp : Sp} (F : FnG P w K mg base j f fd ps sp) (h : j ≤ k) :
    FnG P w K mg base k f fd ps sp := ⟨F.len, fun A outer s H args us vs Q E r => F.run A outer s H args us vs Q E (r.mono h)⟩
section
variable {P : Program} {w : World} {K : PySem.W.Frag} {mg : Str → Option Value} {base : Heap}
theorem fnG_of {x qual : Str} {st : Stmt} {f : Addr} {fd : FuncData} {N ps : List Str} {k : Nat} {sp : Sp} (F : FunX K x qual st f fd) (S : FnScope N ps (defScope st)) (len : ∀ vs H Q E, sp vs H Q E → vs.length = ps.length)
    (hbody : ∀ (cdv : Value) (A : Around) (outer : List PySem.Env) (s : Shared) (H : Hp) (vs : List V) (Q : VK) (E : XK), RoomG k (A.deeper (envOfC qual (defScope st) s.heap.objs.size f cdv)) → sp vs H Q E →
      ∃ t, PSs (cxOf (L2.CX P w) P w K mg base N qual (defScope st) f cdv A outer s H E) (defBody st) t ∧ t { nx := fun _ H' => Q .non H', rt := Q } (L2.start N vs) H) : FnG P w K mg base (k + 1) f fd ps sp := by
  obtain ⟨oc, od, dV, kV, doc, pm, an, cdv, ct, osl, rfl, lk, hcd⟩ := F.ex
  refine ⟨len, fun A outer s H args us vs Q E hr e0 hb r hsp => ?_⟩
  have hl := len _ _ _ _ hsp
  have KX : K.In s.heap := e0.mod.kin.keeps fun b o e => (e0.bs b o e).1
  have lim : s.heap.NoLimit := e0.mod.nolimit.keeps fun b o e => (e0.bs b o e).1
  have hk : ∀ y ∈ ps.zip us, (defScope st).names.lookup y.1 = some .local ∨ ((defScope st).names.lookup y.1 = some .cell ∧ ((cellsFrom (s.heap.objs.size + 1) (defScope st).names []).lookup y.1).isSome = true) := by
    rintro ⟨n, v⟩ hy
    rcases S.par n (List.of_mem_zip hy).1 with q | q
    · exact .inl q
    · exact .inr ⟨q, PySem.W.cellsFrom_some _ _ _ (.inl q)⟩
  refine codeAny_call_function hr.room.depth (KX _ _ lk) rfl S.co S.gen rfl
    (PySem.W.codeRec_of KX hcd) (hb _ _ _ _ ?_)
  refine wpAny_newFunctionEnv_cells S.kind hk fun env he s1 x => ?_
  subst he
  refine ⟨lim.keeps x.toInCall.keep, codeAny_func ?_⟩
  obtain ⟨t, ht, hq⟩ := hbody cdv A outer s H vs Q E (hr.deeper _) hsp
  have I := inv_start (CX := L2.CX P w) (E := E) (qual := qual) (f := f) (cd := cdv) S hr.room.hd e0 hl r x
  refine wpAny_mono (ht.run [] s1 (L2.start N vs) H _ I hq) (fun fl s' hs => ?_) fun e s' hs => hs
  have fin : ∀ {σ' : L2.St} {H' : Hp} {v : V} {u : Value}, Inv (cxOf (L2.CX P w) P w K mg base N qual (defScope st) f cdv A outer s H E) [] σ' H' s' → RelV v u → Q v H' → CE outer P w H s Q u s' := by
    intro σ' H' v u J rv q
    exact ⟨v, H', J.os, J.bare, J.base, J.hok, rv, q⟩
  cases fl with
  | ret u =>
    obtain ⟨v, σ', H', J, rv, q⟩ := hs
    exact fin J rv q
  | next =>
    obtain ⟨σ', H', J, q⟩ := hs
    exact fin (v := V.non) (u := Value.none) J rfl q
  | brk => obtain ⟨_, _, _, q⟩ := hs; exact q.elim
  | cont => obtain ⟨_, _, _, q⟩ := hs; exact q.elim
end
def spG (g : G) (n : Nat) (m : List D → List O → R D) : Sp := fun vs H Q E =>
  vs.length = n ∧ ∃ W ρ A ds, Rl g W ρ A H ∧ VRs g W ρ ds vs ∧ Post g (VR g) (fun c d _ H' => E c d H') W ρ H [] (m ds A) Q
section
variable {X : Cx} {c : String → Addr} {EX : WX} {k n : Nat} {f : Addr} {fd : FuncData} {ps : List Str} {dds : List D} {ds : List Value} {x : Str} {p pos : Pos} {e : Expr} {es : List Expr} {mr : M (List D)}
  {m : List D → List O → R D}
theorem passesG {W : WX} (tk : Takes X W) (σ : L2.St) : PassesAt (L2.CX X.prog X.w) X σ (fun c d H => W c d σ H) := passAt tk σ
theorem run_fnG {sp : Sp} {dvs : List V} {E : L2.St → XK} {pins : List (Addr × Obj)} {σ : L2.St} {H : Hp} {s : Shared} {Q : VK} {us : List Value} {vs : List V} (F : FnG X.prog X.w X.K X.mg X.base k f fd ps sp) (hr : RoomG k X.A) (hb : Binds X.K fd ps ds) (hd : Vals dvs ds) (hx : PassesAt (L2.CX X.prog X.w) X σ (E σ))
    (I : Inv X pins σ H s) (r : Vals vs us) (h : sp (vs ++ dvs) H Q (E σ)) : wpAny (model X.prog X.w) X.A (call (.ref f) us) (EP X pins σ Q) X.xe s := by
  have r2 : Vals (vs ++ dvs) (us ++ ds) := r.append hd
  have hl : (us ++ ds).length = ps.length := by rw [← r2.length]; exact F.len _ _ _ _ h
  refine wpAny_call (codeAny_mono (F.run X.A X.stack s H ⟨us, []⟩ (us ++ ds) (vs ++ dvs) Q (E σ) hr I.env0 (hb s us I.kIn hl) r2 h) fun r s' hq => ?_)
  match r, hq with
  | .error e, hq => exact hx pins H s e s' I hq
  | .ok (.ret u), hq => exact I.after hq
  | .ok .next, hq => exact hq.elim
  | .ok .brk, hq => exact hq.elim
  | .ok .cont, hq => exact hq.elim
def mCall (m : List D → List O → R D) (dds : List D) (mr : M (List D)) : M D := fun σ A => (mr σ A).bind fun xs A => m (xs ++ dds) A
theorem se_call {dvs : List V} (F : FnG X.prog X.w X.K X.mg X.base k f fd ps (spG ⟨X.K, c, X.w⟩ n m)) (hr : RoomG k X.A) (hg : Gl X x) (hm : X.mg x = some (.ref f)) (hk : PySem.W.keepIn X.K (.ref f) = true) (hb : Binds X.K fd ps ds) (hd : Vals dvs ds) (hdd : ∀ W ρ, VRs ⟨X.K, c, X.w⟩ W ρ dds dvs) (hn : es.length + 1 + dds.length = n) (tk : Takes X EX)
    (ha : PA X (e :: es) (tA ⟨X.K, c, X.w⟩ EX mr)) (hlen : ∀ σ A xs A', mr σ A = .ok xs A' → xs.length = es.length + 1) (hdb : (x == ("__debug__" : Str)) = false := by decide) (he : starEach (e :: es) X.env = (false, eval e X.env) :: starEach es X.env := by rfl) (hpl : (backTo pos (starEach es X.env)).any (·.1) = false := by rfl) :
    PE X (.Call (.Name x p) (e :: es) [] pos) (tE ⟨X.K, c, X.w⟩ EX (mCall m dds mr)) := by
  refine ⟨fun pins s σ H Q I h => ?_⟩
  refine wpAny_Call_Name_kw (ld_glob I hg hm ?_ hdb)
  obtain ⟨W, ρ, A, σd, hR, hE, hP⟩ := h
  have h2 : tA ⟨X.K, c, X.w⟩ EX mr σ H (fun vs H' => vs.length = es.length + 1 ∧ ∃ W' ρ' A' xs, Rl ⟨X.K, c, X.w⟩ W' ρ' A' H' ∧ VRs ⟨X.K, c, X.w⟩ W' ρ' xs vs ∧ Post ⟨X.K, c, X.w⟩ (VR ⟨X.K, c, X.w⟩) EX W' ρ' H' σ (m (xs ++ dds) A') Q) :=
    ⟨W, ρ, A, σd, hR, hE, (Post.bind (rel := VRs ⟨X.K, c, X.w⟩) hP).weak fun v H' ⟨W', ρ', A', xs, _, R', r', eq, P'⟩ => ⟨by rw [← r'.length]; exact hlen _ _ _ _ eq, W', ρ', A', xs, R', r', P'⟩⟩
  refine PySem.W.callWith_K (h₀ := X.base) I.ok.mod.kin hk (thn (ha.run pos pins s σ H _ I h2) fun us s1 ⟨vs, H1, I1, r, q⟩ => ⟨I1.kIn, ?_⟩) he hpl
  obtain ⟨lv, W', ρ', A', xs, R', r', P'⟩ := q
  refine run_fnG (E := fun σ c d H => EX c d σ H) F hr hb hd (passesG tk σ) I1 r ?_
  refine ⟨?_, W', ρ', A', xs ++ dds, R', r'.append (hdd _ _), ?_⟩
  · rw [List.length_append, lv, ← (hdd W' ρ').length]; exact hn
  · have P2 := P'
    cases em : m (xs ++ dds) A' with
    | ok d A2 => rw [em] at P2; exact P2
    | ex c' fs A2 => rw [em] at P2; exact P2
    | no => rw [em] at P2; exact P2
end
theorem mArgs0_len {σ : Env} {A A' : List O} {xs : List D} (h : mArgs0 σ A = .ok xs A') : xs.length = 0 := by
  unfold mArgs0 at h; cases h; rfl
theorem mArgs_len {n : Nat} {ma : M D} {mr : M (List D)} (hr : ∀ σ A xs A', mr σ A = .ok xs A' → xs.length = n) : ∀ σ A xs A', mArgs ma mr σ A = .ok xs A' → xs.length = n + 1 := by
  intro σ A xs A' h
  unfold mArgs at h
  cases e : ma σ A with
  | ok x A1 =>
    rw [e] at h
    simp only [R.bind_ok] at h
    cases e2 : mr σ A1 with
    | ok ys A2 =>
      rw [e2] at h
      simp only [R.bind_ok] at h
      cases h
      rw [List.length_cons, hr _ _ _ _ e2]
    | ex c fs A2 => rw [e2] at h; cases h
    | no => rw [e2] at h; cases h
  | ex c fs A1 => rw [e] at h; cases h
  | no => rw [e] at h; cases h
end Vi
end
section
namespace Vi
open PySem PySem.Spec L2
def dTru (x : D) (A : List O) : R Bool := match x with
  | .non => .ok false A
  | .bl b => .ok b A
  | .int i => .ok (i != 0) A
  | .str s => if s.length ≤ sizeLine then .ok ((s.length : Int) != 0) A else .no
  | .tup ds => .ok (!ds.isEmpty) A
  | .lst ds => .ok (!ds.isEmpty) A
  | .scr ds => .ok (!ds.isEmpty) A
  | .ref n => match A[n]? with
    | some (.lst ds) => .ok (!ds.isEmpty) A
    | some (.dct ks _) => .ok (!ks.isEmpty) A
    | _ => .no
  | _ => .no
def mTru (ma : M D) : M Bool := fun σ A => (ma σ A).bind dTru
def mBl (ma : M D) : M Bool := fun σ A => (ma σ A).bind fun x A => match x with
  | .bl b => .ok b A
  | _ => .no
def mNotT (mt : M Bool) : M Bool := fun σ A => (mt σ A).bind fun b A => .ok (!b) A
def mAndT (m1 m2 : M Bool) : M Bool := fun σ A => (m1 σ A).bind fun b A => if b then m2 σ A else .ok false A
def mOrT (m1 m2 : M Bool) : M Bool := fun σ A => (m1 σ A).bind fun b A => if b then .ok true A else m2 σ A
def mIte (mt : M Bool) (ma mb : M D) : M D := fun σ A => (mt σ A).bind fun b A => if b then ma σ A else mb σ A
def mAnd (ma mb : M D) : M D := fun σ A => (ma σ A).bind fun x A => match x with
  | .bl true => mb σ A
  | .bl false => .ok (.bl false) A
  | _ => .no
def mOr (ma mb : M D) : M D := fun σ A => (ma σ A).bind fun x A => match x with
  | .bl true => .ok (.bl true) A
  | .bl false => mb σ A
  | _ => .no
def dNot (x : D) (A : List O) : R D := match x with
  | .bl b => .ok (.bl (!b)) A
  | _ => .no
theorem VRs.emp {g : G} {W : Hp} {ρ : List Addr} {ds : List D} {vs : List V} (r : VRs g W ρ ds vs) : ds.isEmpty = vs.isEmpty := by
  cases r <;> rfl
theorem KR.emp {κ : Type} {g : G} {W : Hp} {ρ : List Addr} {ds : List (κ × D)} {vs : List (κ × V)} (r : KR g W ρ ds vs) : ds.isEmpty = vs.isEmpty := by
  cases r <;> rfl
theorem tru_of {g : G} {W : Hp} {ρ : List Addr} {A : List O} {H : Hp} {EX : WX} {σ : L2.St} {x : D} {v : V} {Q : Bool → Hp → Prop} (hR : Rl g W ρ A H) (r : VR g W ρ x v) (h : Post g (fun _ _ a b => a = b) EX W ρ H σ (dTru x A) Q) : ∃ k, TruV g.K v H k ∧ Q k H := by
  cases r with
  | non => exact ⟨false, rfl, Post.val hR rfl h⟩
  | bl b => exact ⟨b, rfl, Post.val hR rfl h⟩
  | int i => exact ⟨_, rfl, Post.val hR rfl h⟩
  | str s =>
    unfold dTru at h
    simp only at h
    split at h
    · rename_i hz
      exact ⟨_, ⟨hz, rfl⟩, Post.val hR rfl h⟩
    · exact h.elim
  | tup h1 r1 => exact ⟨_, .inr (.inl ⟨_, sqT_up hR h1, by rw [r1.emp]⟩), Post.val hR rfl h⟩
  | lst h1 r1 => exact ⟨_, .inl ⟨_, SqL.of (hR.ext _ _ h1), by rw [r1.emp]⟩, Post.val hR rfl h⟩
  | scr h1 r1 => exact ⟨_, .inl ⟨_, sqL_up hR h1, by rw [r1.emp]⟩, Post.val hR rfl h⟩
  | @ref n a h1 =>
    unfold dTru at h
    simp only at h
    split at h
    · rename_i ds e
      obtain ⟨vs, e2, r2⟩ := hR.obj n _ a e h1
      exact ⟨_, .inl ⟨_, SqL.of e2, by rw [r2.emp]⟩, Post.val hR rfl h⟩
    · rename_i ks ds e
      obtain ⟨vs, e2, l2, _, r2⟩ := hR.obj n _ a e h1
      exact ⟨_, .inr (.inr ⟨_, e2, by
        have := l2.trans r2.length
        cases ks with
        | nil => rfl
        | cons k ks => cases vs with
          | nil => simp at this
          | cons v vs => rfl⟩), Post.val hR rfl h⟩
    · exact h.elim
  | _ => exact h.elim
section
variable {X : Cx} {c : String → Addr} {EX : WX} {a b : Expr} {rest : List Expr} {ma mb : M D} {t1 t2 : M Bool} {pos : Pos}
theorem st_val (ha : PE X a (tE ⟨X.K, c, X.w⟩ EX ma)) (he : ∀ whole, isTrue a X.env whole = (do let v ← whole; standAt a.pos; holding [v] (truthy v)) := by intro _; rfl) : PT X a (tT ⟨X.K, c, X.w⟩ EX (mTru ma)) :=
  PT.imp (pt_truth ha he) fun σ H Q h => (tM.bind (rel := VR ⟨X.K, c, X.w⟩) (m := ma) (f := fun _ => dTru) h).weak fun v H1 ⟨W, ρ, A, σd, x, hR, hE, rx, hP⟩ => tru_of hR rx hP
theorem test_of {m : M D} {σ : L2.St} {H : Hp} {Q : Bool → Hp → Prop} (h : tT ⟨X.K, c, X.w⟩ EX (mBl m) σ H Q) : tE ⟨X.K, c, X.w⟩ EX m σ H (fun x H' => ∃ k, x = .bl k ∧ Q k H') :=
  (tM.bind (rel := VR ⟨X.K, c, X.w⟩) (m := m) h).weak fun v H1 ⟨W, ρ, A, σd, x, hR, hE, rx, hP⟩ => by
    cases rx with
    | bl b => exact ⟨b, rfl, Post.val hR rfl hP⟩
    | _ => exact hP.elim
theorem st_cmp {op : CmpOp} {r : R2} {f : D → D → List O → R D} (ho : OpR X (compareOp op) r) (hs : OpS ⟨X.K, c, X.w⟩ r f) (ha : PE X a (tE ⟨X.K, c, X.w⟩ EX ma)) (hb : PE X b (tE ⟨X.K, c, X.w⟩ EX mb)) (hm : behindInMarks op b = false := by first | exact nomark _ | rfl) : PT X (.Compare a [op] [b] pos) (tT ⟨X.K, c, X.w⟩ EX (mBl (m2 f ma mb))) :=
  PT.imp (pt_cmpR ho ha hb hm) fun σ H Q h =>
    (tM.bind2 (rel := VR ⟨X.K, c, X.w⟩) (rel2 := VR ⟨X.K, c, X.w⟩) (m := ma) (m2 := mb) (f := f) (fun e r => VR.mono e r) (test_of h)).weak fun v H1 q => q.weak fun u H2 ⟨W, ρ, A, x, y, hR, rx, ry, hP⟩ => hs hR rx ry hP
theorem st_not (ha : PT X a (tT ⟨X.K, c, X.w⟩ EX t1)) : PT X (.UnaryOp .Not a pos) (tT ⟨X.K, c, X.w⟩ EX (mNotT t1)) :=
  PT.imp (pt_not ha) fun σ H Q h => (tM.bind (rel := fun _ _ a b => a = b) (m := t1) (f := fun _ b A => .ok (!b) A) h).weak fun v H1 ⟨W, ρ, A, σd, x, hR, hE, rx, hP⟩ => by
    subst rx
    exact Post.val hR rfl hP
theorem sw_and1 (ha : PT X a (tT ⟨X.K, c, X.w⟩ EX t1)) : PW X (.BoolOp .And [a] pos) (tT ⟨X.K, c, X.w⟩ EX t1) := pw_and1 ha
theorem sw_or1 (ha : PT X a (tT ⟨X.K, c, X.w⟩ EX t1)) : PW X (.BoolOp .Or [a] pos) (tT ⟨X.K, c, X.w⟩ EX t1) := pw_or1 ha
theorem sw_and (ha : PT X a (tT ⟨X.K, c, X.w⟩ EX t1)) (hb : PW X (.BoolOp .And (b :: rest) pos) (tT ⟨X.K, c, X.w⟩ EX t2)) : PW X (.BoolOp .And (a :: b :: rest) pos) (tT ⟨X.K, c, X.w⟩ EX (mAndT t1 t2)) :=
  PW.imp (pw_and ha hb) fun σ H Q h => (tM.bind (rel := fun _ _ a b => a = b) (m := t1) (f := fun σ b A => if b then t2 σ A else .ok false A) h).weak fun v H1 ⟨W, ρ, A, σd, x, hR, hE, rx, hP⟩ => by
    subst rx
    cases x with
    | true => exact ⟨W, ρ, A, σd, hR, hE, hP⟩
    | false => exact Post.val (d := false) hR rfl hP
theorem sw_or (ha : PT X a (tT ⟨X.K, c, X.w⟩ EX t1)) (hb : PW X (.BoolOp .Or (b :: rest) pos) (tT ⟨X.K, c, X.w⟩ EX t2)) : PW X (.BoolOp .Or (a :: b :: rest) pos) (tT ⟨X.K, c, X.w⟩ EX (mOrT t1 t2)) :=
  PW.imp (pw_or ha hb) fun σ H Q h => (tM.bind (rel := fun _ _ a b => a = b) (m := t1) (f := fun σ b A => if b then .ok true A else t2 σ A) h).weak fun v H1 ⟨W, ρ, A, σd, x, hR, hE, rx, hP⟩ => by
    subst rx
    cases x with
    | true => exact Post.val (d := true) hR rfl hP
    | false => exact ⟨W, ρ, A, σd, hR, hE, hP⟩
theorem se_one {op} (ha : PE X a (tE ⟨X.K, c, X.w⟩ EX ma)) : PE X (.BoolOp op [a] pos) (tE ⟨X.K, c, X.w⟩ EX ma) := pe_one ha
theorem se_or (ha : PE X a (tE ⟨X.K, c, X.w⟩ EX ma)) (hb : PE X (.BoolOp .Or (b :: rest) pos) (tE ⟨X.K, c, X.w⟩ EX mb)) : PE X (.BoolOp .Or (a :: b :: rest) pos) (tE ⟨X.K, c, X.w⟩ EX (mOr ma mb)) :=
  PE.imp (pe_or ha hb) fun σ H Q h => (tM.bind (rel := VR ⟨X.K, c, X.w⟩) (m := ma) h).weak fun v H1 ⟨W, ρ, A, σd, x, hR, hE, rx, hP⟩ => by
    cases rx with
    | bl k =>
      refine ⟨k, rfl, ?_⟩
      cases k with
      | true => exact Post.val (d := D.bl true) hR (.bl true) hP
      | false => exact ⟨W, ρ, A, σd, hR, hE, hP⟩
    | _ => exact hP.elim
end
inductive Fl where
  | nx (σ : Env)
  | rt (d : D)
  | bk (σ : Env)
  | ct (σ : Env)
  | xc (c : String) (fs : List (Str × D)) (σ : Env)
abbrev SM := Env → List O → R Fl
def PostF (g : G) (EX : WX) (D' : Ends) (fl : Fl) (W : Hp) (ρ : List Addr) (H : Hp) : Prop := match fl with
  | .nx σd => ∀ σ, ER g W ρ σd σ → D'.nx σ H
  | .rt d => ∀ v, VR g W ρ d v → D'.rt v H
  | .bk σd => ∀ σ, ER g W ρ σd σ → D'.bk σ H
  | .ct σd => ∀ σ, ER g W ρ σd σ → D'.ct σ H
  | .xc c fs σd => ∀ σ dd, ER g W ρ σd σ → XF g W ρ H fs dd → EX (.ref (g.cls c)) dd σ H
def PostS (g : G) (EX : WX) (W : Hp) (ρ : List Addr) (H : Hp) (D' : Ends) (r : R Fl) : Prop := match r with
  | .ok fl A => ∀ W' ρ' H', Ext W ρ H W' ρ' H' → Rl g W' ρ' A H' → PostF g EX D' fl W' ρ' H'
  | _ => False
def tS (g : G) (EX : WX) (m : SM) : TS := fun D' σ H => ∃ W ρ A σd, Rl g W ρ A H ∧ ER g W ρ σd σ ∧ PostS g EX W ρ H D' (m σd A)
def withE {α : Type} (m : M α) (k : Env → α → List O → R Fl) : SM := fun σ A => match m σ A with
  | .ok x A => k σ x A
  | .ex c fs A => .ok (.xc c fs σ) A
  | .no => .no
section
variable {g : G} {EX : WX} {W W' : Hp} {ρ ρ' : List Addr} {A : List O} {H H' : Hp} {D' : Ends} {σ : L2.St} {σd : Env}
theorem PostS.mono {r : R Fl} (e : Ext W ρ H W' ρ' H') (h : PostS g EX W ρ H D' r) : PostS g EX W' ρ' H' D' r := by
  cases r with
  | ok fl A => exact fun W2 ρ2 H2 e2 R2 => h W2 ρ2 H2 (e.trans e2) R2
  | ex c fs A => exact h
  | no => exact h
theorem PostS.val {fl : Fl} (hR : Rl g W ρ A H) (h : PostS g EX W ρ H D' (.ok fl A)) : PostF g EX D' fl W ρ H := h W ρ H (Ext.refl W ρ H) hR
theorem PostS.withE {α β : Type} {rel : Hp → List Addr → α → β → Prop} {m : M α} {k : Env → α → List O → R Fl} (hE : ER g W ρ σd σ) (h : PostS g EX W ρ H D' (Vi.withE m k σd A)) :
    Post g rel EX W ρ H σ (m σd A) (fun v H' => ∃ W' ρ' A' d, Ext W ρ H W' ρ' H' ∧ Rl g W' ρ' A' H' ∧ rel W' ρ' d v ∧ m σd A = .ok d A' ∧ PostS g EX W' ρ' H' D' (k σd d A')) := by
  unfold Vi.withE at h
  cases e : m σd A with
  | ok d A' =>
    rw [e] at h
    exact fun W2 ρ2 H2 v e2 R2 r2 => ⟨W2, ρ2, A', d, e2, R2, r2, rfl, PostS.mono e2 h⟩
  | ex c fs A' =>
    rw [e] at h
    exact fun W2 ρ2 H2 dd e2 R2 x2 => h W2 ρ2 H2 e2 R2 σ dd (hE.mono e2.ex) x2
  | no =>
    rw [e] at h
    exact h
theorem tS.withE {α β : Type} {rel : Hp → List Addr → α → β → Prop} {m : M α} {k : Env → α → List O → R Fl} (h : tS g EX (Vi.withE m k) D' σ H) :
    tM g rel EX m σ H (fun v H' => ∃ W ρ A σd d, Rl g W ρ A H' ∧ ER g W ρ σd σ ∧ rel W ρ d v ∧ PostS g EX W ρ H' D' (k σd d A)) := by
  obtain ⟨W, ρ, A, σd, hR, hE, hP⟩ := h
  exact ⟨W, ρ, A, σd, hR, hE, (PostS.withE (rel := rel) hE hP).weak fun v H' ⟨W', ρ', A', d, e', R', r', _, P'⟩ => ⟨W', ρ', A', σd, d, R', hE.mono e'.ex, r', P'⟩⟩
end
def sExpr (m : M D) : SM := withE m fun σ _ A => .ok (.nx σ) A
def sRet (m : M D) : SM := withE m fun _ d A => .ok (.rt d) A
def sRetN : SM := fun _ A => .ok (.rt .non) A
def sPass : SM := fun σ A => .ok (.nx σ) A
def sBreak : SM := fun σ A => .ok (.bk σ) A
def sSet (i : Nat) (m : M D) : SM := withE m fun σ d A => .ok (.nx (σ.set i (some d))) A
def sIf (mt : M Bool) (a b : SM) : SM := withE mt fun σ k A => if k then a σ A else b σ A
def sSeq (a b : SM) : SM := fun σ A => match a σ A with
  | .ok (.nx σ) A => b σ A
  | r => r
def sAug (i : Nat) (f : D → D → List O → R D) (m : M D) : SM := fun σ A => match σ[i]? with
  | some (some x) => withE (fun σ A => (m σ A).bind fun y A => f x y A) (fun σ d A => .ok (.nx (σ.set i (some d))) A) σ A
  | _ => .no
def sRetF (i : Nat) : SM := fun σ A => match σ[i]? with
  | some (some (.ref n)) => match A[n]? with
    | some (.lst ds) => .ok (.rt (.lst ds)) (A.set n .dead)
    | _ => .no
  | _ => .no
section
variable {X : Cx} {c : String → Addr} {EX : WX} {e : Expr} {st : Stmt} {rest : List Stmt} {ma : M D} {pos : Pos} {s1 s2 : SM}
theorem ss_nil : PSs X [] (tS ⟨X.K, c, X.w⟩ EX sPass) := PSs.imp pss_nil fun D' σ H ⟨W, ρ, A, σd, hR, hE, hP⟩ => PostS.val hR hP σ hE
theorem ss_one (h : PS X st (tS ⟨X.K, c, X.w⟩ EX s1)) : PSs X [st] (tS ⟨X.K, c, X.w⟩ EX s1) := pss_one h
theorem ss_cons (h1 : PS X st (tS ⟨X.K, c, X.w⟩ EX s1)) (h2 : PSs X rest (tS ⟨X.K, c, X.w⟩ EX s2)) : PSs X (st :: rest) (tS ⟨X.K, c, X.w⟩ EX (sSeq s1 s2)) :=
  PSs.imp (pss_cons h1 h2) fun D' σ H ⟨W, ρ, A, σd, hR, hE, hP⟩ => by
    refine ⟨W, ρ, A, σd, hR, hE, ?_⟩
    unfold sSeq at hP
    cases e : s1 σd A with
    | ok fl A1 =>
      rw [e] at hP
      cases fl with
      | nx σ1 => exact fun W2 ρ2 H2 e2 R2 σ' r2 => ⟨W2, ρ2, A1, σ1, R2, r2, PostS.mono e2 hP⟩
      | rt d => exact hP
      | bk σ1 => exact hP
      | ct σ1 => exact hP
      | xc c' fs σ1 => exact hP
    | ex c' fs A1 => rw [e] at hP; exact hP
    | no => rw [e] at hP; exact hP
theorem ss_ret (h : PE X e (tE ⟨X.K, c, X.w⟩ EX ma)) : PS X (.Return (some e) pos) (tS ⟨X.K, c, X.w⟩ EX (sRet ma)) :=
  PS.imp (ps_ret h) fun D' σ H q => (tS.withE (rel := VR ⟨X.K, c, X.w⟩) q).weak fun v H' ⟨W, ρ, A, σd, d, hR, hE, r, hP⟩ => PostS.val hR hP v r
theorem ss_set {i : Nat} {x : Str} {pos' : Pos} (hN : X.N.Nodup) (hi : X.N[i]? = some x) (hx : Loc X.env.scope x) (h : PE X e (tE ⟨X.K, c, X.w⟩ EX ma)) (hs : swapsWith e (some (.Name x pos')) pos.line X.env = pure false := by rfl)
    (hf : X.fn x = true ∨ X.env.scope.names.lookup x = some .local := by first | exact .inl rfl | exact .inr rfl | assumption) : PS X (.Assign [.Name x pos'] e pos) (tS ⟨X.K, c, X.w⟩ EX (sSet i ma)) :=
  PS.imp (ps_set hN hi hx h hs hf) fun D' σ H q => (tS.withE (rel := VR ⟨X.K, c, X.w⟩) q).weak fun v H' ⟨W, ρ, A, σd, d, hR, hE, r, hP⟩ => PostS.val hR hP _ (hE.set i r)
theorem ss_if {t : Expr} {a b : List Stmt} {mt : M Bool} (ht : PT X t (tT ⟨X.K, c, X.w⟩ EX mt)) (ha : PSs X a (tS ⟨X.K, c, X.w⟩ EX s1)) (hb : PSs X b (tS ⟨X.K, c, X.w⟩ EX s2)) : PS X (.If t a b pos) (tS ⟨X.K, c, X.w⟩ EX (sIf mt s1 s2)) :=
  PS.imp (ps_if ht ha hb) fun D' σ H q => (tS.withE (rel := fun _ _ a b => a = b) q).weak fun v H' ⟨W, ρ, A, σd, d, hR, hE, r, hP⟩ => by
    subst r
    cases d with
    | true => exact ⟨W, ρ, A, σd, hR, hE, hP⟩
    | false => exact ⟨W, ρ, A, σd, hR, hE, hP⟩
end
end Vi
end
section
namespace Vi
open PySem PySem.Spec L2
abbrev TgM := D → Env → List O → R Env
structure ERT (g : G) (vs : List Nat) (σ0 : L2.St) (W : Hp) (ρ : List Addr) (σd : Env) (σ : L2.St) : Prop where
  er : ER g W ρ σd σ
  len : σ.length = σ0.length
  out : ∀ j, j ∉ vs → σ[j]? = σ0[j]?
def noX : WX := fun _ _ _ _ => False
def tG (g : G) (vs : List Nat) (mt : TgM) : TG := fun v σ H Q =>
  ∃ W ρ A σd d, Rl g W ρ A H ∧ ER g W ρ σd σ ∧ VR g W ρ d v ∧ Post g (ERT g vs σ) noX W ρ H σ (mt d σd A) Q
def tgN (i : Nat) : TgM := fun d σ A => .ok (σ.set i (some d)) A
def tgsNil : List D → Env → List O → R Env := fun ds σ A => match ds with
  | [] => .ok σ A
  | _ => .no
def tgsCons (t : TgM) (r : List D → Env → List O → R Env) : List D → Env → List O → R Env := fun ds σ A => match ds with
  | d :: ds => (t d σ A).bind fun σ A => r ds σ A
  | _ => .no
def tgT (n : Nat) (r : List D → Env → List O → R Env) : TgM := fun d σ A => match d with
  | .tup ds => if ds.length = n then r ds σ A else .no
  | .lst ds => if ds.length = n then r ds σ A else .no
  | _ => .no
def setIx (o i d : D) (A : List O) : Option (List O) := match o, i with
  | .ref n, .int k => match A[n]? with
    | some (.lst ds) => match ixN ds.length k with
      | some j => some (A.set n (.lst (ds.set j d)))
      | none => none
    | _ => none
  | _, _ => none
def tgSub (mo mi : M D) : TgM := fun d σ A => (mo σ A).bind fun o A => (mi σ A).bind fun i A => match setIx o i d A with
  | some A => .ok σ A
  | none => .no
theorem PG.imp {X : Cx} {e : Expr} {t u : TG} (h : PG X e t) (i : ∀ v σ H Q, u v σ H Q → t v σ H Q) : PG X e u := ⟨fun pins s σ H v uv Q I r q => h.run pins s σ H v uv Q I r (i v σ H Q q)⟩
theorem PI.imp {X : Cx} {tg e : Expr} {t u : TI} (h : PI X tg e t) (i : ∀ σ H R, u σ H R → t σ H R) : PI X tg e u := ⟨fun pins s σ H R I q => h.run pins s σ H R I (i σ H R q)⟩
theorem PI.or {X : Cx} {tg e : Expr} {t u : TI} (h : PI X tg e t) (h' : PI X tg e u) : PI X tg e (fun σ H R => t σ H R ∨ u σ H R) :=
  ⟨fun pins s σ H R I q => q.elim (h.run pins s σ H R I) (h'.run pins s σ H R I)⟩
theorem Post.noX {g : G} {α β : Type} {rel : Hp → List Addr → α → β → Prop} {EX : WX} {W : Hp} {ρ : List Addr} {H : Hp} {σ : L2.St} {r : R α} {Q : β → Hp → Prop} (h : Post g rel noX W ρ H σ r Q) : Post g rel EX W ρ H σ r Q := by
  cases r with
  | ok d A => exact h
  | ex c fs A => exact fun W2 ρ2 H2 dd e2 R2 x2 => (h W2 ρ2 H2 dd e2 R2 x2).elim
  | no => exact h
section
variable {X : Cx} {c : String → Addr} {EX : WX} {vs : List Nat} {pos : Pos}
theorem sg_name {i : Nat} {x : Str} (hN : X.N.Nodup) (hi : X.N[i]? = some x) (hx : Loc X.env.scope x) (hv : i ∈ vs := by decide)
    (hf : X.fn x = true ∨ X.env.scope.names.lookup x = some .local := by first | exact .inl rfl | exact .inr rfl | assumption) : PG X (.Name x pos) (tG ⟨X.K, c, X.w⟩ vs (tgN i)) :=
  PG.imp (pg_name hN hi hx hf) fun v σ H Q ⟨W, ρ, A, σd, d, hR, hE, hr, hP⟩ => by
    refine hP W ρ H _ (Ext.refl W ρ H) hR ⟨hE.set i hr, by simp, fun j hj => ?_⟩
    rw [List.getElem?_set_ne]
    rintro rfl
    exact hj hv
theorem setIx_ok {g : G} {W : Hp} {ρ : List Addr} {A A' : List O} {H : Hp} {o i d : D} {ov iv v : V} {Q : Hp → Prop} (hR : Rl g W ρ A H) (ro : VR g W ρ o ov) (ri : VR g W ρ i iv) (rd : VR g W ρ d v) (h : setIx o i d A = some A')
    (q : ∀ H', Ext W ρ H W ρ H' → Rl g W ρ A' H' → Q H') : rSetL ov iv v H Q := by
  unfold setIx at h
  cases ro with
  | @ref n a h1 =>
    cases ri with
    | int k =>
      simp only at h
      split at h
      · rename_i ds e
        split at h
        · rename_i j ej
          cases h
          obtain ⟨us, e2, r2⟩ := hR.obj n _ a e h1
          refine ⟨a, us, k, j, rfl, rfl, e2, by rw [← r2.length]; exact ej, ?_⟩
          exact q _ (Rl.putE h1) (hR.put e (fun z => nomatch z) h1 ⟨_, rfl, r2.set rd j⟩)
        · cases h
      · cases h
    | _ => cases h
  | _ => cases h
theorem sg_sub {o i : Expr} {mo mi : M D} (ho : PE X o (tE ⟨X.K, c, X.w⟩ noX mo)) (hi : PE X i (tE ⟨X.K, c, X.w⟩ noX mi))
    (ha : ∀ v, assign (.Subscript o i pos) X.env v = (do
      let ov ← holding [v] (eval o X.env)
      let iv ← holding [v, ov] (eval i X.env)
      standAt pos
      holding [v, ov, iv] (setItem ov iv v)
      release [v, ov, iv] []) := by intro _; rfl) : PG X (.Subscript o i pos) (tG ⟨X.K, c, X.w⟩ vs (tgSub mo mi)) :=
  PG.imp (pg_sub ho hi set_list ha) fun v σ H Q ⟨W, ρ, A, σd, d, hR, hE, hr, hP⟩ => by
    refine ⟨W, ρ, A, σd, hR, hE, (Post.noX (Post.bind (rel := VR ⟨X.K, c, X.w⟩) hP)).weak fun ov H1 ⟨W1, ρ1, A1, od, e1, R1, r1, _, P1⟩ => ?_⟩
    refine ⟨W1, ρ1, A1, σd, R1, hE.mono e1.ex, (Post.noX (Post.bind (rel := VR ⟨X.K, c, X.w⟩) P1)).weak fun iv H2 ⟨W2, ρ2, A2, id', e2, R2, r2, _, P2⟩ => ?_⟩
    cases em : setIx od id' d A2 with
    | some A3 =>
      rw [em] at P2
      refine setIx_ok R2 (r1.mono e2.ex) r2 (hr.mono (e1.trans e2).ex) em fun H3 e3 R3 => ?_
      exact P2 W2 ρ2 H3 σ e3 R3 ⟨hE.mono ((e1.trans e2).trans e3).ex, rfl, fun _ _ => rfl⟩
    | none => rw [em] at P2; exact P2.elim
def sAsg (m : M D) (mt : TgM) : SM := withE m fun σ d A => match mt d σ A with
  | .ok σ A => .ok (.nx σ) A
  | _ => .no
theorem ss_asg {tg e : Expr} {ma : M D} {mt : TgM} (he : PE X e (tE ⟨X.K, c, X.w⟩ EX ma)) (hg : PG X tg (tG ⟨X.K, c, X.w⟩ vs mt)) (hs : swapsWithSole [tg] e pos.line X.env = pure false := by rfl) (hw : swappedStores [tg] e X.env = pure none := by rfl)
    (h1 : (assignEach [tg] X.env).map (·.2) = [assign tg X.env] := by rfl) : PS X (.Assign [tg] e pos) (tS ⟨X.K, c, X.w⟩ EX (sAsg ma mt)) :=
  PS.imp (ps_asg he hg hs hw h1) fun D' σ H q => (tS.withE (rel := VR ⟨X.K, c, X.w⟩) q).weak fun v H' ⟨W, ρ, A, σd, d, hR, hE, r, hP⟩ => by
    refine ⟨W, ρ, A, σd, d, hR, hE, r, ?_⟩
    cases em : mt d σd A with
    | ok σ1 A1 =>
      rw [em] at hP
      exact fun W2 ρ2 H2 σ2 e2 R2 er => hP W2 ρ2 H2 e2 R2 σ2 er.er
    | ex c' fs A1 => rw [em] at hP; exact hP.elim
    | no => rw [em] at hP; exact hP.elim
end
structure Src where
  ok : List O → Prop
  items : List D
abbrev Src.fix (ds : List D) : Src := ⟨fun _ => True, ds⟩
abbrev Src.live (x : D) (ds : List D) : Src := ⟨fun A => lstOf x A = some ds, ds⟩
def SrcR (g : G) (W0 : Hp) (ρ0 : List Addr) (s : Src) (J : It) : Prop :=
  ∀ W ρ A H i, Ex2 W0 ρ0 W ρ → Rl g W ρ A H → s.ok A → (s.items.length ≤ i → J.stop i H) ∧
    ∀ d, s.items[i]? = some d → J.go i H ∧ ∀ x H', J.yld i H x H' → ∃ W', Ext W ρ H W' ρ H' ∧ Rl g W' ρ A H' ∧ VR g W' ρ d x
theorem SrcR.mono {g : G} {W W' : Hp} {ρ ρ' : List Addr} {s : Src} {J : It} (e : Ex2 W ρ W' ρ') (h : SrcR g W ρ s J) : SrcR g W' ρ' s J := fun W2 ρ2 A H i e2 => h W2 ρ2 A H i (e.trans e2)
abbrev tI (g : G) (EX : WX) (m : M Src) : TI := tM g (SrcR g) EX m
def kD : Key → D
  | .inl i => .int i
  | .inr s => .str s
def srcOf (x : D) (A : List O) : R Src := match x with
  | .tup ds => .ok (.fix ds) A
  | .lst ds => .ok (.fix ds) A
  | .scr ds => .ok (.fix ds) A
  | .ref n => match A[n]? with
    | some (.lst ds) => .ok (.live (.ref n) ds) A
    | _ => .no
  | .str s => .ok (.fix (s.cps.toList.map fun z => .str ⟨#[z]⟩)) A
  | .dz ks _ => .ok (.fix (ks.map kD)) A
  | _ => .no
def mSrc (ma : M D) : M Src := fun σ A => (ma σ A).bind srcOf
section
variable {g : G} {W : Hp} {ρ : List Addr}
theorem src_range {lo : Int} {n : Nat} : SrcR g W ρ (.fix ((List.range n).map fun i => .int (lo + (i : Nat)))) (Itr lo n) := by
  intro W' ρ' A H i e hR ok
  refine ⟨fun hi => ?_, fun d hd => ?_⟩
  · have : n ≤ i := by simpa [Src.items] using hi
    exact this
  · have hd' : ((List.range n).map fun i => (D.int (lo + (i : Nat))))[i]? = some d := hd
    rw [List.getElem?_map] at hd'
    obtain ⟨k, h1, rfl⟩ := Option.map_eq_some_iff.mp hd'
    have hk : i < n ∧ k = i := by
      rw [List.getElem?_eq_some_iff] at h1
      obtain ⟨h2, h3⟩ := h1
      rw [List.getElem_range] at h3
      exact ⟨by simpa using h2, h3.symm⟩
    obtain ⟨hi, rfl⟩ := hk
    refine ⟨hi, fun x H' y => ?_⟩
    obtain ⟨rfl, rfl⟩ := y
    exact ⟨W', Ext.refl W' ρ' H', hR, .int _⟩
end
end Vi
end
section
namespace Vi
open PySem PySem.Spec L2
open Classical
noncomputable def forD (ok : List O → Prop) (tg : TgM) (body : SM) : List D → SM
  | [], σ, A => if ok A then .ok (.nx σ) A else .no
  | d :: ds, σ, A => if ok A then (match tg d σ A with
    | .ok σ1 A1 => (match body σ1 A1 with
      | .ok (.nx σ2) A2 => forD ok tg body ds σ2 A2
      | .ok (.ct σ2) A2 => forD ok tg body ds σ2 A2
      | .ok (.bk σ2) A2 => .ok (.nx σ2) A2
      | r => r)
    | _ => .no) else .no
noncomputable def sFor (mi : M Src) (tg : TgM) (body : SM) : SM := withE mi fun σ s A => forD s.ok tg body s.items σ A
section
variable {X : Cx} {c : String → Addr} {EX : WX} {tg iter t : Expr} {body : List Stmt} {mi : M Src} {mt : TgM} {sb : SM} {vs : List Nat} {pos : Pos}
theorem ss_for (hp : PySem.PassesOwn (model X.prog X.w) X.A X.env X.xe) (hc : X.calm = true) (hi : PI X tg iter (tI ⟨X.K, c, X.w⟩ EX mi)) (hg : PG X tg (tG ⟨X.K, c, X.w⟩ vs mt)) (hb : PSs X body (tS ⟨X.K, c, X.w⟩ EX sb))
    (hs : ∀ x, foldedSetIterable iter X.env x = pure x := by intro _; rfl) : PS X (.For tg iter body [] pos) (tS ⟨X.K, c, X.w⟩ EX (sFor mi mt sb)) :=
  PS.imp (ps_for hp hc hi hg hb hs) fun D' σ H q => (tS.withE (rel := SrcR ⟨X.K, c, X.w⟩) q).weak fun J H1 ⟨W, ρ, A, σd, src, hR, hE, hJ, hP⟩ => by
    refine ⟨fun i m σ H => m = src.items.length - i ∧ i ≤ src.items.length ∧ ∃ W' ρ' A' σd', Ex2 W ρ W' ρ' ∧ Rl ⟨X.K, c, X.w⟩ W' ρ' A' H ∧ ER ⟨X.K, c, X.w⟩ W' ρ' σd' σ ∧ PostS ⟨X.K, c, X.w⟩ EX W' ρ' H D' (forD src.ok mt sb (src.items.drop i) σd' A'),
      ⟨src.items.length, by simp, Nat.zero_le _, W, ρ, A, σd, Ex2.refl W ρ, hR, hE, by rw [List.drop_zero]; exact hP⟩, ?_⟩
    rintro i m σ2 H2 ⟨rfl, hi, W', ρ', A', σd', e', R', E', P'⟩
    by_cases hlt : i < src.items.length
    · have hd : src.items.drop i = src.items[i] :: src.items.drop (i + 1) := List.drop_eq_getElem_cons hlt
      rw [hd] at P'
      unfold forD at P'
      split at P'
      · rename_i ok
        obtain ⟨_, hgo⟩ := hJ W' ρ' A' H2 i e' R' ok
        obtain ⟨go, yld⟩ := hgo src.items[i] (List.getElem?_eq_getElem hlt)
        refine .inr ⟨go, fun σ' H' => i + 1 ≤ src.items.length ∧ ∃ W' ρ' A' σd', Ex2 W ρ W' ρ' ∧ Rl ⟨X.K, c, X.w⟩ W' ρ' A' H' ∧ ER ⟨X.K, c, X.w⟩ W' ρ' σd' σ' ∧ PostS ⟨X.K, c, X.w⟩ EX W' ρ' H' D' (forD src.ok mt sb (src.items.drop (i + 1)) σd' A'),
          fun σ' H' n => ⟨src.items.length - (i + 1), by omega, rfl, n⟩, fun x H' y => ?_⟩
        obtain ⟨W3, e3, R3, r3⟩ := yld x H' y
        refine ⟨W3, ρ', A', σd', src.items[i], R3, E'.mono e3.ex, r3, ?_⟩
        cases em : mt src.items[i] σd' A' with
        | ok σ4 A4 =>
          rw [em] at P'
          refine fun W5 ρ5 H5 σ5 e5 R5 er5 => ⟨W5, ρ5, A4, σ4, R5, er5.er, ?_⟩
          have P5 := PostS.mono (e3.trans e5) P'
          simp only at P5
          cases em2 : sb σ4 A4 with
          | ok fl A6 =>
            rw [em2] at P5
            intro W6 ρ6 H6 e6 R6
            cases fl with
            | nx σ6 => exact fun σ7 E7 => ⟨hlt, W6, ρ6, A6, σ6, ((e'.trans e3.ex).trans e5.ex).trans e6.ex, R6, E7, PostS.mono e6 P5⟩
            | ct σ6 => exact fun σ7 E7 => ⟨hlt, W6, ρ6, A6, σ6, ((e'.trans e3.ex).trans e5.ex).trans e6.ex, R6, E7, PostS.mono e6 P5⟩
            | bk σ6 => exact fun σ7 E7 => P5 W6 ρ6 H6 e6 R6 σ7 E7
            | rt d => exact P5 W6 ρ6 H6 e6 R6
            | xc c' fs σ6 => exact P5 W6 ρ6 H6 e6 R6
          | ex c' fs A6 => rw [em2] at P5; exact P5
          | no => rw [em2] at P5; exact P5
        | ex c' fs A4 => rw [em] at P'; exact P'.elim
        | no => rw [em] at P'; exact P'.elim
      · exact P'.elim
    · have hi' : i = src.items.length := by omega
      subst hi'
      rw [List.drop_length] at P'
      unfold forD at P'
      split at P'
      · rename_i ok
        exact .inl ⟨(hJ W' ρ' A' H2 _ e' R' ok).1 (Nat.le_refl _), PostS.val R' P' σ2 E'⟩
      · exact P'.elim
end
def wipeD (σ : Env) : List Nat → Env
  | [] => σ
  | v :: vs => (wipeD σ vs).set v none
noncomputable def lcD (ok : List O → Prop) (tg : TgM) (mt : M Bool) (me : M D) (σ : Env) : List D → List D → List O → R (List D)
  | [], acc, A => if ok A then .ok acc A else .no
  | d :: ds, acc, A => if ok A ∧ acc.length < sizeLine then (match tg d σ A with
    | .ok σ1 A1 => (match mt σ1 A1 with
      | .ok true A2 => (match me σ1 A2 with
        | .ok y A3 => lcD ok tg mt me σ ds (acc ++ [y]) A3
        | _ => .no)
      | .ok false A2 => lcD ok tg mt me σ ds acc A2
      | _ => .no)
    | _ => .no) else .no
noncomputable def mLc (fz : Bool) (mi : M Src) (tg : TgM) (mt : M Bool) (me : M D) (vs : List Nat) : M D := fun σ A => (mi σ A).bind fun s A => (lcD s.ok tg mt me (wipeD σ vs) s.items [] A).bind fun ds A => newL fz ds A
def mYes : M Bool := fun _ A => .ok true A
theorem ER.wipe {g : G} {W : Hp} {ρ : List Addr} {σd : Env} {σ : L2.St} (h : ER g W ρ σd σ) : ∀ vs, ER g W ρ (wipeD σd vs) (wipe σ vs)
  | [] => h
  | v :: vs => (ER.wipe h vs).unset v
theorem wipe_same {σ σ' : L2.St} : ∀ {vs : List Nat}, σ'.length = σ.length → (∀ j, j ∉ vs → σ'[j]? = σ[j]?) → wipe σ' vs = wipe σ vs := by
  intro vs hl ho
  apply List.ext_getElem?
  intro j
  have hin : ∀ {τ : L2.St} {us : List Nat}, j ∈ us → (wipe τ us)[j]? = if j < τ.length then some none else none := by
    intro τ us hm
    induction us with
    | nil => cases hm
    | cons u us ih =>
      unfold wipe
      by_cases e : u = j
      · subst e
        rw [List.getElem?_set_self']
        have hw := wipe_length τ us
        by_cases hj : u < τ.length
        · rw [List.getElem?_eq_getElem (by rw [hw]; exact hj), if_pos hj]; rfl
        · rw [List.getElem?_eq_none (by rw [hw]; omega), if_neg hj]; rfl
      · rw [List.getElem?_set_ne e]
        exact ih ((List.mem_cons.mp hm).resolve_left (fun z => e z.symm))
  by_cases hm : j ∈ vs
  · rw [hin hm, hin hm, hl]
  · rw [wipe_out hm, wipe_out hm]
    exact ho j hm
section
variable {g : G} {W : Hp} {ρ : List Addr} {A : List O} {H : Hp} {p : Addr}
structure ExtD (p : Addr) (W : Hp) (ρ : List Addr) (H : Hp) (W' : Hp) (ρ' : List Addr) (H' : Hp) : Prop where
  ex : Ex2 W ρ W' ρ'
  fr : ∀ (q : Addr) (o : HO), q ≠ p → H q = some o → q ∉ ρ → H' q = some o ∧ q ∉ ρ' ∧ (W q = none → W' q = none)
theorem ExtD.then {W1 W2 : Hp} {ρ1 ρ2 : List Addr} {H1 H2 : Hp} (a : ExtD p W ρ H W1 ρ1 H1) (b : Ext W1 ρ1 H1 W2 ρ2 H2) : ExtD p W ρ H W2 ρ2 H2 :=
  ⟨a.ex.trans b.ex, fun q o z h n => by
    obtain ⟨h1, n1, w1⟩ := a.fr q o z h n
    obtain ⟨h2, n2, w2⟩ := b.fr q o h1 n1
    exact ⟨h2, n2, fun z => w2 (w1 z)⟩⟩
theorem ExtD.put {W1 : Hp} {ρ1 : List Addr} {H1 : Hp} {o : HO} (a : ExtD p W ρ H W1 ρ1 H1) : ExtD p W ρ H W1 ρ1 (upd H1 p o) :=
  ⟨a.ex, fun q o z h n => by
    obtain ⟨h1, n1, w1⟩ := a.fr q o z h n
    exact ⟨by rw [upd_ne z]; exact h1, n1, w1⟩⟩
theorem ExtD.done {W1 : Hp} {ρ1 : List Addr} {H1 : Hp} (hp : H p = none) (a : ExtD p W ρ H W1 ρ1 H1) : Ext W ρ H W1 ρ1 H1 :=
  ⟨a.ex, fun q o h n => a.fr q o (ne_of_none h hp) h n⟩
theorem Rl.upd (h : Rl g W ρ A H) (hn : p ∉ ρ) (hw : W p = none) {o : HO} : Rl g W ρ A (L2.upd H p o) := by
  have ne : ∀ {n : Nat} {a : Addr}, ρ[n]? = some a → a ≠ p := fun {n a} e z => hn (by rw [← z]; exact List.mem_of_getElem? e)
  refine ⟨fun a o e => ?_, h.len, h.nd, fun n o a h1 h2 => ?_, h.nw, fun n a e => ?_⟩
  · rw [upd_ne (ne_of_none e hw)]; exact h.ext a o e
  · rw [upd_ne (ne h2)]; exact h.obj n o a h1 h2
  · rw [upd_ne (ne e)]; exact h.al n a e
theorem Rl.adoptW {vs : List V} {ds : List D} (h : Rl g W ρ A H) (hn : p ∉ ρ) (hw : W p = none) (hp : H p = some (.lst vs)) (r : VRs g W ρ ds vs) :
    Ex2 W ρ (L2.upd W p (.lst vs)) ρ ∧ Rl g (L2.upd W p (.lst vs)) ρ A H ∧ VR g (L2.upd W p (.lst vs)) ρ (.lst ds) (.ref p) ∧ ∀ q, q ≠ p → W q = none → L2.upd W p (.lst vs) q = none := by
  have e : Ex2 W ρ (L2.upd W p (.lst vs)) ρ := ⟨fun a o q => by rw [upd_ne (ne_of_none q hw)]; exact q, fun _ _ q => q⟩
  refine ⟨e, ⟨fun a o q => ?_, h.len, h.nd, fun n o a h1 h2 => (h.obj n o a h1 h2).mono e, fun n o a h1 h2 => ?_, h.al⟩, .lst upd_same (r.mono e), fun q z w => by rw [upd_ne z]; exact w⟩
  · by_cases z : a = p
    · subst z; rw [upd_same] at q; cases q; exact hp
    · rw [upd_ne z] at q; exact h.ext a o q
  · rcases h.nw n o a h1 h2 with z | z
    · exact .inl z
    · right; rw [upd_ne (fun z => hn (by rw [← z]; exact List.mem_of_getElem? h2))]; exact z
theorem Rl.adopt {vs : List V} {ds : List D} (h : Rl g W ρ A H) (hn : p ∉ ρ) (hw : W p = none) (hp : H p = some (.lst vs)) (r : VRs g W ρ ds vs) :
    Ex2 W ρ W (ρ ++ [p]) ∧ Rl g W (ρ ++ [p]) (A ++ [.lst ds]) H ∧ VR g W (ρ ++ [p]) (.ref A.length) (.ref p) := by
  have e : Ex2 W ρ W (ρ ++ [p]) := ⟨fun _ _ q => q, fun n a q => by
    rw [List.getElem?_append_left (List.getElem?_eq_some_iff.mp q).1]; exact q⟩
  have hl : (ρ ++ [p])[A.length]? = some p := by rw [← h.len]; simp
  have split_ : ∀ {n : Nat} {a : Addr}, (ρ ++ [p])[n]? = some a → ρ[n]? = some a ∨ (n = A.length ∧ a = p) := fun {n a} q => by
    rcases Nat.lt_or_ge n ρ.length with z | z
    · rw [List.getElem?_append_left z] at q; exact .inl q
    · rw [List.getElem?_append_right z] at q
      have q2 : n - ρ.length = 0 := by
        have := (List.getElem?_eq_some_iff.mp q).1
        simp at this
        omega
      rw [q2] at q
      simp at q
      exact .inr ⟨by rw [← h.len]; omega, q.symm⟩
  have at_ : ∀ {n : Nat} {o : O}, n < A.length → (A ++ [.lst ds])[n]? = some o → A[n]? = some o := fun {n o} z q => by rw [List.getElem?_append_left z] at q; exact q
  refine ⟨e, ⟨h.ext, by simp [h.len], ?_, fun n o a h1 h2 => ?_, fun n o a h1 h2 => ?_, fun n a q => ?_⟩, .ref hl⟩
  · rw [List.nodup_append]
    refine ⟨h.nd, by simp, fun a ha b hb => ?_⟩
    simp only [List.mem_singleton] at hb
    rintro rfl
    rw [hb] at ha
    exact hn ha
  · rcases split_ h2 with q | ⟨rfl, rfl⟩
    · exact (h.obj n o a (at_ (by rw [← h.len]; exact (List.getElem?_eq_some_iff.mp q).1) h1) q).mono e
    · simp at h1; subst h1
      exact ⟨vs, hp, r.mono e⟩
  · rcases split_ h2 with q | ⟨rfl, rfl⟩
    · exact h.nw n o a (at_ (by rw [← h.len]; exact (List.getElem?_eq_some_iff.mp q).1) h1) q
    · exact .inr hw
  · rcases split_ q with q | ⟨rfl, rfl⟩
    · exact h.al n a q
    · rw [hp]; simp
end
section
variable {X : Cx} {c : String → Addr} {EX : WX} {elt tg iter : Expr} {ifs : List Expr} {scope : Scope} {own : List (Str × Nat)} {mi : M Src} {mt : TgM} {m1 : M Bool} {me : M D} {pos : Pos}
theorem lc_imp {fz : Bool} {vs : List Nat} {σ : L2.St} {H : Hp} {Q : VK} (h : tE ⟨X.K, c, X.w⟩ EX (mLc fz mi mt m1 me vs) σ H Q) :
    tLc (tI ⟨X.K, c, X.w⟩ EX mi) (tG ⟨X.K, c, X.w⟩ vs mt) (tT ⟨X.K, c, X.w⟩ noX m1) (tE ⟨X.K, c, X.w⟩ noX me) vs σ H Q := by
  refine (tM.bind (rel := SrcR ⟨X.K, c, X.w⟩) (m := mi) h).weak fun J H1 ⟨W, ρ, A, σd, src, hR, hE, hJ, hP⟩ => ?_
  intro p hp
  have hn := hR.notin hp
  have hw := hR.fresh hp
  have R0 : Rl ⟨X.K, c, X.w⟩ W ρ A (upd H1 p (.lst [])) := hR.other hp
  have E0 : ExtD p W ρ H1 W ρ (upd H1 p (.lst [])) := ⟨Ex2.refl W ρ, fun q o z h n => ⟨by rw [upd_ne z]; exact h, n, fun w => w⟩⟩
  refine ⟨fun i m H => m = src.items.length - i ∧ i ≤ src.items.length ∧ ∃ W' ρ' A' acc vacc, ExtD p W ρ H1 W' ρ' H ∧ Rl ⟨X.K, c, X.w⟩ W' ρ' A' H ∧ p ∉ ρ' ∧ W' p = none ∧ H p = some (.lst vacc) ∧ VRs ⟨X.K, c, X.w⟩ W' ρ' acc vacc ∧
      Post ⟨X.K, c, X.w⟩ (VR ⟨X.K, c, X.w⟩) EX W ρ H1 σ ((lcD src.ok mt m1 me (wipeD σd vs) (src.items.drop i) acc A').bind fun ds A => newL fz ds A) Q,
    ⟨src.items.length, by simp, Nat.zero_le _, W, ρ, A, [], [], E0, R0, hn, hw, upd_same, .nil, by rw [List.drop_zero]; exact hP⟩, ?_⟩
  rintro i m H2 ⟨rfl, hi, W', ρ', A', acc, vacc, e', R', n', w', h', r', P'⟩
  by_cases hlt : i < src.items.length
  · have hd : src.items.drop i = src.items[i] :: src.items.drop (i + 1) := List.drop_eq_getElem_cons hlt
    rw [hd] at P'
    unfold lcD at P'
    split at P'
    · rename_i ok
      obtain ⟨ok, hz⟩ := ok
      obtain ⟨_, hgo⟩ := hJ W' ρ' A' H2 i e'.ex R' ok
      obtain ⟨go, yld⟩ := hgo src.items[i] (List.getElem?_eq_getElem hlt)
      refine .inr ⟨go, fun H => i + 1 ≤ src.items.length ∧ ∃ W' ρ' A' acc vacc, ExtD p W ρ H1 W' ρ' H ∧ Rl ⟨X.K, c, X.w⟩ W' ρ' A' H ∧ p ∉ ρ' ∧ W' p = none ∧ H p = some (.lst vacc) ∧ VRs ⟨X.K, c, X.w⟩ W' ρ' acc vacc ∧
        Post ⟨X.K, c, X.w⟩ (VR ⟨X.K, c, X.w⟩) EX W ρ H1 σ ((lcD src.ok mt m1 me (wipeD σd vs) (src.items.drop (i + 1)) acc A').bind fun ds A => newL fz ds A) Q, fun H' n => ⟨src.items.length - (i + 1), by omega, rfl, n⟩, fun x H' y => ?_⟩
      obtain ⟨W3, e3, R3, r3⟩ := yld x H' y
      refine ⟨W3, ρ', A', wipeD σd vs, src.items[i], R3, (hE.wipe vs).mono (e'.ex.trans e3.ex), r3, ?_⟩
      cases em : mt src.items[i] (wipeD σd vs) A' with
      | ok σ4 A4 =>
        rw [em] at P'
        refine fun W5 ρ5 H5 σ5 e5 R5 er5 => ⟨?_, ?_⟩
        · have z1 := wipe_same (σ := wipe σ vs) (σ' := σ5) (vs := vs) er5.len er5.out
          have z2 := wipe_same (σ := σ) (σ' := wipe σ vs) (vs := vs) (wipe_length σ vs) (fun j hj => wipe_out hj)
          exact z1.trans z2
        refine ⟨W5, ρ5, A4, σ4, R5, er5.er, ?_⟩
        simp only at P'
        cases em2 : m1 σ4 A4 with
        | ok b A6 =>
          rw [em2] at P'
          intro W6 ρ6 H6 b' e6 R6 rb
          subst rb
          have e36 := (e3.trans e5).trans e6
          obtain ⟨h6, n6, w6⟩ := e36.fr p _ h' n'
          cases b with
          | false =>
            refine (if_neg Bool.false_ne_true).mpr ⟨hlt, W6, ρ6, A6, acc, vacc, e'.then e36, R6, n6, w6 w', h6, r'.mono e36.ex, P'⟩
          | true =>
            refine (if_pos rfl).mpr ⟨W6, ρ6, A6, σ4, R6, er5.er.mono e6.ex, ?_⟩
            simp only at P'
            cases em3 : me σ4 A6 with
            | ok y A7 =>
              rw [em3] at P'
              intro W7 ρ7 H7 v7 e7 R7 r7
              obtain ⟨h7, n7, w7⟩ := e7.fr p _ h6 n6
              have w7' := w7 (w6 w')
              refine ⟨vacc, h7, by rw [← r'.length]; exact hz, hlt, W7, ρ7, A7, acc ++ [y], vacc ++ [v7], (e'.then (e36.trans e7)).put, R7.upd n7 w7', n7, w7', upd_same, (r'.mono (e36.trans e7).ex).append (.cons r7 .nil), P'⟩
            | ex c' fs A7 => rw [em3] at P'; exact P'.elim
            | no => rw [em3] at P'; exact P'.elim
        | ex c' fs A6 => rw [em2] at P'; exact P'.elim
        | no => rw [em2] at P'; exact P'.elim
      | ex c' fs A4 => rw [em] at P'; exact P'.elim
      | no => rw [em] at P'; exact P'.elim
    · exact P'.elim
  · have hi' : i = src.items.length := by omega
    subst hi'
    rw [List.drop_length] at P'
    unfold lcD at P'
    split at P'
    · rename_i ok
      refine .inl ⟨(hJ W' ρ' A' H2 _ e'.ex R' ok).1 (Nat.le_refl _), ?_⟩
      have P2 : Post ⟨X.K, c, X.w⟩ (VR ⟨X.K, c, X.w⟩) EX W ρ H1 σ (newL fz acc A') Q := P'
      unfold newL at P2
      split at P2
      · cases fz with
        | true =>
          obtain ⟨x1, R2, v2, w2⟩ := R'.adoptW n' w' h' r'
          have ed : ExtD p W ρ H1 (upd W' p (.lst vacc)) ρ' H2 := ⟨e'.ex.trans x1, fun q o z h n => by
            obtain ⟨a1, a2, a3⟩ := e'.fr q o z h n
            exact ⟨a1, a2, fun w => w2 q z (a3 w)⟩⟩
          exact P2 _ _ _ _ (ed.done hp) R2 v2
        | false =>
          obtain ⟨x1, R2, v2⟩ := R'.adopt n' w' h' r'
          have ed : ExtD p W ρ H1 W' (ρ' ++ [p]) H2 := ⟨e'.ex.trans x1, fun q o z h n => by
            obtain ⟨a1, a2, a3⟩ := e'.fr q o z h n
            exact ⟨a1, fun m => (List.mem_append.mp m).elim a2 fun m => z (List.mem_singleton.mp m), a3⟩⟩
          exact P2 _ _ _ _ (ed.done hp) R2 v2
      · exact P2.elim
    · exact P'.elim
theorem sts_nil : PTs X [] (tT ⟨X.K, c, X.w⟩ EX mYes) := ⟨fun pins s σ H Q I h => pts_nil.run pins s σ H Q I (by
  obtain ⟨W, ρ, A, σd, hR, hE, hP⟩ := h
  exact Post.val (d := true) hR rfl hP)⟩
theorem se_lc {fz : Bool} (hc : X.calm = true) (hN : X.N.Nodup) (hi : PI X tg iter (tI ⟨X.K, c, X.w⟩ EX mi)) (ok : BlkOk X.N X.env.scope scope own)
    (hg : ∀ (s : Shared) (H : Hp) (C : Addr) (cl : List (Str × Addr)) (fp : List Addr), PG (X.blk s H scope (compEnvC scope cl C X.env) fp) tg (tG ⟨X.K, c, X.w⟩ (own.map (·.2)) mt))
    (ht : ∀ (s : Shared) (H : Hp) (C : Addr) (cl : List (Str × Addr)) (fp : List Addr), PTs (X.blk s H scope (compEnvC scope cl C X.env) fp) ifs (tT ⟨X.K, c, X.w⟩ noX m1))
    (he : ∀ (s : Shared) (H : Hp) (C : Addr) (cl : List (Str × Addr)) (fp : List Addr), PE (X.blk s H scope (compEnvC scope cl C X.env) fp) elt (tE ⟨X.K, c, X.w⟩ noX me))
    (hs : ∀ x, foldedSetIterable iter X.env x = pure x := by intro _; rfl) : PE X (.ListComp elt [⟨tg, iter, ifs, 0⟩] scope pos) (tE ⟨X.K, c, X.w⟩ EX (mLc fz mi mt m1 me (own.map (·.2)))) :=
  PE.imp (pe_lc hc hN hi ok hg ht he hs) fun σ H Q h => lc_imp h
end
end Vi
end
section
namespace Vi
open PySem PySem.Spec L2
open PySem.P (repr_of_none repr_of_bool repr_of_int repr_of_str)
def fLen (xs : List D) (A : List O) : R D := match xs with
  | [.str s] => if s.length ≤ sizeLine then .ok (.int s.length) A else .no
  | [x] => match seqOf x A with
    | some ds => .ok (.int ds.length) A
    | none => .no
  | _ => .no
def isTy (x : D) (t : Ty) (A : List O) : Option Bool := match x with
  | .non => some false
  | .bl _ => some (t == .bool || t == .int)
  | .int _ => some (t == .int)
  | .str _ => some (t == .str)
  | .tup _ => some (t == .tuple)
  | .lst _ => some (t == .list)
  | .dk _ _ => some (t == .dict)
  | .db _ _ => some (t == .dict)
  | .ref n => match A[n]? with
    | some (.lst _) => some (t == .list)
    | some (.dct _ _) => some (t == .dict)
    | _ => none
  | _ => none
def fIsi (xs : List D) (A : List O) : R D := match xs with
  | [x, .ty t] => match isTy x t A with
    | some b => .ok (.bl b) A
    | none => .no
  | _ => .no
def fInt (xs : List D) (A : List O) : R D := match xs with
  | [.int i] => .ok (.int i) A
  | [.bl b] => .ok (.int (if b then 1 else 0)) A
  | _ => .no
def fTupOf (xs : List D) (A : List O) : R D := match xs with
  | [.tup ds] => .ok (.tup ds) A
  | [x] => match lstOf x A with
    | some ds => .ok (.tup ds) A
    | none => .no
  | _ => .no
def fListOf (fz : Bool) (xs : List D) (A : List O) : R D := match xs with
  | [x] => match seqOf x A with
    | some ds => newL fz ds A
    | none => .no
  | _ => .no
def bools : List D → Option (List Bool)
  | [] => some []
  | .bl b :: ds => (bools ds).map fun bs => b :: bs
  | _ => none
def intsOf : List D → Option (List Int)
  | [] => some []
  | .int i :: ds => (intsOf ds).map fun is => i :: is
  | _ => none
def fAll (xs : List D) (A : List O) : R D := match xs with
  | [x] => match (lstOf x A).bind bools with
    | some bs => .ok (.bl (bs.all id)) A
    | none => .no
  | _ => .no
def fAny (xs : List D) (A : List O) : R D := match xs with
  | [x] => match (lstOf x A).bind bools with
    | some bs => .ok (.bl (bs.any id)) A
    | none => .no
  | _ => .no
def fSum (xs : List D) (A : List O) : R D := match xs with
  | [x] => match (lstOf x A).bind intsOf with
    | some is => .ok (.int is.sum) A
    | none => .no
  | _ => .no
def fMin2 (xs : List D) (A : List O) : R D := match xs with
  | [.int i, .int j] => .ok (.int (if j < i then j else i)) A
  | _ => .no
def fMax2 (xs : List D) (A : List O) : R D := match xs with
  | [.int i, .int j] => .ok (.int (if j > i then j else i)) A
  | _ => .no
section
variable {g : G} {W : Hp} {ρ : List Addr} {A : List O} {H : Hp}
theorem VRs.one_ {d : D} {vs : List V} (r : VRs g W ρ [d] vs) : ∃ v, vs = [v] ∧ VR g W ρ d v := by
  cases r with
  | cons r1 r2 => cases r2; exact ⟨_, rfl, r1⟩
theorem cs_len : CallS g (fun xs H Q => ∃ x n, xs = [x] ∧ LenV g.K x H n ∧ Q (.int n) H) fLen := by
  intro EX W ρ A H σ xs vs Q hR r h
  unfold fLen at h
  split at h
  · obtain ⟨v, rfl, r1⟩ := r.one_
    split at h
    · rename_i hz
      cases r1
      exact ⟨_, _, rfl, ⟨hz, rfl⟩, Post.val hR (.int _) h⟩
    · exact h.elim
  · rename_i x _
    obtain ⟨v, rfl, r1⟩ := r.one_
    split at h
    · rename_i ds e
      obtain ⟨a, us, rfl, hq, r2⟩ := seqOf_ok hR r1 e
      refine ⟨_, ds.length, rfl, ?_, Post.val hR (.int _) h⟩
      rcases hq with hq | hq
      · exact .inl ⟨us, hq, r2.length⟩
      · exact .inr ⟨us, hq, r2.length⟩
    · exact h.elim
  · exact h.elim
theorem cs_int : CallS g (fun xs H Q => (∃ i, xs = [.int i] ∧ Q (.int i) H) ∨ ∃ k, xs = [.bl k] ∧ Q (.int (if k then 1 else 0)) H) fInt := by
  intro EX W ρ A H σ xs vs Q hR r h
  unfold fInt at h
  split at h
  · obtain ⟨v, rfl, r1⟩ := r.one_
    cases r1
    exact .inl ⟨_, rfl, Post.val hR (.int _) h⟩
  · obtain ⟨v, rfl, r1⟩ := r.one_
    cases r1
    exact .inr ⟨_, rfl, Post.val hR (.int _) h⟩
  · exact h.elim
end
end Vi
end
section
namespace Vi
open PySem PySem.Spec L2
def rng (lo : Int) (n : Nat) : List D := (List.range n).map fun i => .int (lo + (i : Nat))
section
noncomputable local instance (priority := 10000) clsd (p : Prop) : Decidable p := Classical.propDecidable p
noncomputable def fRange1 (xs : List D) (A : List O) : R Src := match xs with
  | [.int j] => if -(2 ^ 62) ≤ j ∧ j < 2 ^ 62 then .ok (.fix (rng 0 j.toNat)) A else .no
  | _ => .no
noncomputable def fRange2 (xs : List D) (A : List O) : R Src := match xs with
  | [.int i, .int j] => if -(2 ^ 62) ≤ i ∧ i < 2 ^ 62 ∧ -(2 ^ 62) ≤ j ∧ j < 2 ^ 62 then .ok (.fix (rng i (j - i).toNat)) A else .no
  | _ => .no
end
def enumD (k : Nat) : List D → List D
  | [] => []
  | d :: ds => .tup [.int k, d] :: enumD (k + 1) ds
def zipD : List D → List D → List D
  | x :: xs, y :: ys => .tup [x, y] :: zipD xs ys
  | _, _ => []
def fEnum (xs : List D) (A : List O) : R Src := match xs with
  | [.lst ds] => .ok (.fix (enumD 0 ds)) A
  | [.ref n] => match A[n]? with
    | some (.lst ds) => .ok ⟨fun A => lstOf (.ref n) A = some ds, enumD 0 ds⟩ A
    | _ => .no
  | _ => .no
def fZip (xs : List D) (A : List O) : R Src := match xs with
  | [.tup ds, .tup es] => .ok (.fix (zipD ds es)) A
  | [x, y] => match lstOf x A, lstOf y A with
    | some ds, some es => .ok ⟨fun A => lstOf x A = some ds ∧ lstOf y A = some es, zipD ds es⟩ A
    | _, _ => .no
  | _ => .no
def mSrcA (f : List D → List O → R Src) (mr : M (List D)) : M Src := fun σ A => (mr σ A).bind f
section
variable {X : Cx} {c : String → Addr} {EX : WX} {tg e e2 : Expr} {mr : M (List D)} {p pos tpos : Pos} {elts : List Expr} {kk : Nat}
theorem si_range1 (hg : Gl X "range") (hm : X.mg "range" = none) (ha : PA X [e] (tA ⟨X.K, c, X.w⟩ EX mr)) (hs : starEach [e] X.env = [(false, eval e X.env)] := by rfl) : PI X tg (.Call (.Name "range" p) [e] [] pos) (tI ⟨X.K, c, X.w⟩ EX (mSrcA fRange1 mr)) :=
  PI.imp (pi_range1 hg hm ha hs) fun σ H R h => (tM.bind (rel := VRs ⟨X.K, c, X.w⟩) (m := mr) (f := fun _ => fRange1) h).weak fun vs H1 ⟨W, ρ, A, σd, xs, hR, hE, rx, hP⟩ => by
    unfold fRange1 at hP
    split at hP
    · obtain ⟨v, rfl, r1⟩ := rx.one_
      cases r1 with
      | int j =>
        split at hP
        · rename_i hj
          exact ⟨_, rfl, hj.1, hj.2, Post.val hR src_range hP⟩
        · exact hP.elim
    · exact hP.elim
end
def isL (x : D) (A : List O) : Bool := (seqOf x A).isSome && (match x with | .tup _ => false | _ => true)
def mMeth (chk : D → List O → Bool) (f : D → List D → List O → R D) (ma : M D) (mr : M (List D)) : M D := fun σ A => (ma σ A).bind fun x A => if chk x A then (mr σ A).bind fun xs A => f x xs A else .no
def mMeth0 (chk : D → List O → Bool) (f : D → List D → List O → R D) (ma : M D) : M D := fun σ A => (ma σ A).bind fun x A => if chk x A then f x [] A else .no
def isS (x : D) (_ : List O) : Bool := match x with
  | .str _ => true
  | _ => false
def ourL (x : D) (A : List O) : Option (Nat × List D) := match x with
  | .ref n => match A[n]? with
    | some (.lst ds) => some (n, ds)
    | _ => none
  | _ => none
def fExtend (x : D) (xs : List D) (A : List O) : R D := match ourL x A, xs with
  | some (n, ds), [y] => match lstOf y A with
    | some es => if ds.length + es.length ≤ sizeLine then .ok .non (A.set n (.lst (ds ++ es))) else .no
    | none => .no
  | _, _ => .no
section
variable {g : G} {W : Hp} {ρ : List Addr} {A : List O} {H : Hp}
theorem VRs.dropLast : ∀ {ds : List D} {vs : List V}, VRs g W ρ ds vs → VRs g W ρ ds.dropLast vs.dropLast
  | _, _, .nil => .nil
  | _, _, .cons _ .nil => .nil
  | _, _, .cons r (.cons q t) => .cons r (VRs.dropLast (.cons q t))
end
end Vi
end
section
namespace Vi
open PySem PySem.Spec L2
open PyProof.Rows (envOfC AllBare)
def endB (r : R Fl) : R D := match r with
  | .ok (.nx _) A => .ok .non A
  | .ok (.rt d) A => .ok d A
  | .ok (.xc c fs _) A => .ex c fs A
  | _ => .no
mutual
def noR : D → Bool
  | .tup ds => noRs ds
  | .lst ds => noRs ds
  | .scr ds => noRs ds
  | .ref _ => false
  | .obj _ _ ds => noRs ds
  | .exc _ _ ds => noRs ds
  | .dk _ ds => noRs ds
  | .db _ ds => noRs ds
  | .dz _ ds => noRs ds
  | .dw _ ds => noRs ds
  | .non => true
  | .bl _ => true
  | .int _ => true
  | .str _ => true
  | .ty _ => true
  | .cls _ => true
  | .rng _ _ => true
def noRs : List D → Bool
  | [] => true
  | d :: ds => noR d && noRs ds
end
def noRO : O → Bool
  | .lst ds => noRs ds
  | .dct _ ds => noRs ds
  | .dtb _ ds => noRs ds
  | .dtn _ ds => noRs ds
  | .dctL _ _ ds => noRs ds
  | .ins _ _ ds => noRs ds
  | .dead => true
theorem noRs_all : ∀ ds : List D, noRs ds = ds.all noR
  | [] => rfl
  | d :: ds => by rw [noRs, List.all_cons, noRs_all ds]
mutual
theorem VR.noref {g : G} {W : Hp} {ρ ρ2 : List Addr} : ∀ {d : D} {v : V}, VR g W ρ d v → noR d = true → VR g W ρ2 d v
  | _, _, .non, _ => .non
  | _, _, .bl b, _ => .bl b
  | _, _, .int i, _ => .int i
  | _, _, .str s, _ => .str s
  | _, _, .tup h r, e => .tup h (VRs.noref r (by simpa [noR] using e))
  | _, _, .lst h r, e => .lst h (VRs.noref r (by simpa [noR] using e))
  | _, _, .scr h r, e => .scr h (VRs.noref r (by simpa [noR] using e))
  | _, _, .ref h, e => by simp [noR] at e
  | _, _, .ty n, _ => .ty n
  | _, _, .cls c, _ => .cls c
  | _, _, .rng h, _ => .rng h
  | _, _, .exc h l r, e => .exc h l (VRs.noref r (by simpa [noR] using e))
  | _, _, .obj h l r, e => .obj h l (VRs.noref r (by simpa [noR] using e))
  | _, _, .dk h l n r, e => .dk h l n (VRs.noref r (by simpa [noR] using e))
  | _, _, .db h l k r, e => .db h l k (VRs.noref r (by simpa [noR] using e))
  | _, _, .dz h l n r, e => .dz h l n (VRs.noref r (by simpa [noR] using e))
  | _, _, .dw h l k r, e => .dw h l k (VRs.noref r (by simpa [noR] using e))
theorem VRs.noref {g : G} {W : Hp} {ρ ρ2 : List Addr} : ∀ {ds : List D} {vs : List V}, VRs g W ρ ds vs → noRs ds = true → VRs g W ρ2 ds vs
  | _, _, .nil, _ => .nil
  | _, _, .cons r t, e => by
    rw [noRs, Bool.and_eq_true] at e
    exact .cons (VR.noref r e.1) (VRs.noref t e.2)
end
mutual
theorem VR.bnd {g : G} {W W' : Hp} {ρ ρ' : List Addr} (ex : Ex2 W ρ W' ρ') : ∀ {d : D} {v v0 : V}, VR g W' ρ' d v → VR g W ρ d v0 → VR g W' ρ d v
  | _, _, _, .non, _ => .non
  | _, _, _, .bl b, _ => .bl b
  | _, _, _, .int i, _ => .int i
  | _, _, _, .str s, _ => .str s
  | _, _, _, .tup h r, .tup _ r0 => .tup h (VRs.bnd ex r r0)
  | _, _, _, .lst h r, .lst _ r0 => .lst h (VRs.bnd ex r r0)
  | _, _, _, .scr h r, .scr _ r0 => .scr h (VRs.bnd ex r r0)
  | _, _, _, .ref h, .ref h0 => .ref (by
    have := ex.pre _ _ h0
    rw [h] at this; cases this
    exact h0)
  | _, _, _, .ty n, _ => .ty n
  | _, _, _, .cls c, _ => .cls c
  | _, _, _, .rng h, _ => .rng h
  | _, _, _, .exc h l r, .exc _ _ r0 => .exc h l (VRs.bnd ex r r0)
  | _, _, _, .obj h l r, .obj _ _ r0 => .obj h l (VRs.bnd ex r r0)
  | _, _, _, .dk h l n r, .dk _ _ _ r0 => .dk h l n (VRs.bnd ex r r0)
  | _, _, _, .db h l k r, .db _ _ _ r0 => .db h l k (VRs.bnd ex r r0)
  | _, _, _, .dz h l n r, .dz _ _ _ r0 => .dz h l n (VRs.bnd ex r r0)
  | _, _, _, .dw h l k r, .dw _ _ _ r0 => .dw h l k (VRs.bnd ex r r0)
theorem VRs.bnd {g : G} {W W' : Hp} {ρ ρ' : List Addr} (ex : Ex2 W ρ W' ρ') : ∀ {ds : List D} {vs vs0 : List V}, VRs g W' ρ' ds vs → VRs g W ρ ds vs0 → VRs g W' ρ ds vs
  | _, _, _, .nil, _ => .nil
  | _, _, _, .cons r t, .cons r0 t0 => .cons (VR.bnd ex r r0) (VRs.bnd ex t t0)
end
theorem OR.noref {g : G} {W : Hp} {ρ ρ2 : List Addr} {a : Addr} {o : O} {h : Option HO} (r : OR g W ρ a o h) (e : noRO o = true) : OR g W ρ2 a o h := by
  cases o with
  | lst ds => obtain ⟨vs, e1, r⟩ := r; exact ⟨vs, e1, r.noref e⟩
  | dct ks ds => obtain ⟨vs, e1, l, n, r⟩ := r; exact ⟨vs, e1, l, n, r.noref e⟩
  | dtb ks ds => obtain ⟨ps, vs, e1, l, k, r⟩ := r; exact ⟨ps, vs, e1, l, k, r.noref e⟩
  | dtn ks ds => obtain ⟨ps, vs, e1, l, k, r⟩ := r; exact ⟨ps, vs, e1, l, k, r.noref e⟩
  | dctL ho ks ds => obtain ⟨e0, od, vs, e1, l, n, r⟩ := r; exact ⟨e0, od, vs, e1, l, n, r.noref e⟩
  | ins c ns ds => obtain ⟨dx, vs, e1, l, r⟩ := r; exact ⟨dx, vs, e1, l, r.noref e⟩
  | dead => trivial
theorem OR.bnd {g : G} {W W' : Hp} {ρ ρ' : List Addr} (ex : Ex2 W ρ W' ρ') {a : Addr} {o : O} {h h0 : Option HO} (r : OR g W' ρ' a o h) (r0 : OR g W ρ a o h0) : OR g W' ρ a o h := by
  cases o with
  | lst ds => obtain ⟨vs, e1, r⟩ := r; obtain ⟨_, _, r0⟩ := r0; exact ⟨vs, e1, r.bnd ex r0⟩
  | dct ks ds => obtain ⟨vs, e1, l, n, r⟩ := r; obtain ⟨_, _, _, _, r0⟩ := r0; exact ⟨vs, e1, l, n, r.bnd ex r0⟩
  | dtb ks ds => obtain ⟨ps, vs, e1, l, k, r⟩ := r; obtain ⟨_, _, _, _, _, r0⟩ := r0; exact ⟨ps, vs, e1, l, k, r.bnd ex r0⟩
  | dtn ks ds => obtain ⟨ps, vs, e1, l, k, r⟩ := r; obtain ⟨_, _, _, _, _, r0⟩ := r0; exact ⟨ps, vs, e1, l, k, r.bnd ex r0⟩
  | dctL ho ks ds => obtain ⟨e0, od, vs, e1, l, n, r⟩ := r; obtain ⟨_, _, _, _, _, _, r0⟩ := r0; exact ⟨e0, od, vs, e1, l, n, r.bnd ex r0⟩
  | ins c ns ds => obtain ⟨dx, vs, e1, l, r⟩ := r; obtain ⟨_, _, _, _, r0⟩ := r0; exact ⟨dx, vs, e1, l, r.bnd ex r0⟩
  | dead => trivial
def TrimC (A : List O) (d : D) (A' : List O) : Prop := A.length ≤ A'.length ∧ noR d = true ∧ ∀ i, i < A.length → A'[i]? = A[i]? ∨ ∃ o, A'[i]? = some o ∧ noRO o = true
open Classical in
noncomputable def trimR (A : List O) (r : R D) : R D := match r with
  | .ok d A' => if TrimC A d A' then .ok d (A'.take A.length) else .ok d A'
  | r => r
theorem trim_rl {g : G} {W W' : Hp} {ρ ρ' : List Addr} {A A' : List O} {H H' : Hp} {d : D} {v : V} (c : TrimC A d A') (hR : Rl g W ρ A H) (e : Ext W ρ H W' ρ' H') (R' : Rl g W' ρ' A' H') (r : VR g W' ρ' d v) :
    Ext W ρ H W' ρ H' ∧ Rl g W' ρ (A'.take A.length) H' ∧ VR g W' ρ d v := by
  obtain ⟨c1, c2, c3⟩ := c
  refine ⟨⟨⟨e.ex.same, fun _ _ h => h⟩, fun p o h n => ?_⟩, ⟨R'.ext, ?_, hR.nd, fun n o a h1 h2 => ?_, fun n o a h1 h2 => ?_, fun n a h => R'.al n a (e.ex.pre _ _ h)⟩, r.noref c2⟩
  · obtain ⟨h1, _, h3⟩ := e.fr p o h n
    exact ⟨h1, n, h3⟩
  · rw [List.length_take, hR.len]; omega
  · have hn : n < A.length := by rw [← hR.len]; exact (List.getElem?_eq_some_iff.mp h2).1
    rw [List.getElem?_take_of_lt hn] at h1
    have r1 := R'.obj n o a h1 (e.ex.pre _ _ h2)
    rcases c3 n hn with q | ⟨o', q, hq⟩
    · rw [h1] at q
      exact r1.bnd e.ex (hR.obj n o a q.symm h2)
    · rw [h1] at q; cases q
      exact r1.noref hq
  · have hn : n < A.length := by rw [← hR.len]; exact (List.getElem?_eq_some_iff.mp h2).1
    rw [List.getElem?_take_of_lt hn] at h1
    exact R'.nw n o a h1 (e.ex.pre _ _ h2)
theorem trim_post {g : G} {EX : WX} {W : Hp} {ρ : List Addr} {A : List O} {H : Hp} {σ : L2.St} {r : R D} {Q : VK} (hR : Rl g W ρ A H) (h : Post g (VR g) EX W ρ H σ (trimR A r) Q) : Post g (VR g) EX W ρ H σ r Q := by
  cases r with
  | ok d A' =>
    unfold trimR at h
    simp only at h
    split at h
    · rename_i c
      intro W' ρ' H' v e R' r'
      obtain ⟨e2, R2, r2⟩ := trim_rl c hR e R' r'
      exact h _ _ _ _ e2 R2 r2
    · exact h
  | ex c fs A' => exact h
  | no => exact h
noncomputable def runB (N : Nat) (b : SM) (args : List D) (A : List O) : R D := trimR A (endB (b (args.map some ++ List.replicate (N - args.length) none) A))
theorem endB_post {g : G} {EX : WX} {W : Hp} {ρ : List Addr} {H : Hp} {Q : VK} {r : R Fl} {E : XK} (h : Post g (VR g) (fun c d _ H' => E c d H') W ρ H [] (endB r) Q) :
    PostS g (fun c d _ H' => E c d H') W ρ H { nx := fun _ H' => Q .non H', rt := Q } r := by
  cases r with
  | ok fl A =>
    cases fl with
    | nx σ => exact fun W' ρ' H' e R' σ _ => h W' ρ' H' .non e R' .non
    | rt d => exact fun W' ρ' H' e R' v r => h W' ρ' H' v e R' r
    | bk σ => exact (show False from h).elim
    | ct σ => exact (show False from h).elim
    | xc c fs σ => exact fun W' ρ' H' e R' σ dd _ x => h W' ρ' H' dd e R' x
  | ex c fs A => exact (show False from h).elim
  | no => exact (show False from h).elim
section
variable {P : Program} {w : World} {K : PySem.W.Frag} {mg : Str → Option Value} {base : Heap} {c : String → Addr}
theorem fnG_run {x qual : Str} {st : Stmt} {f : Addr} {fd : FuncData} {N ps : List Str} {k n : Nat} {b : SM} (F : FunX K x qual st f fd) (S : FnScope N ps (defScope st)) (hn : ps.length = n)
    (hb : ∀ (X : Cx) (EX : WX), (∃ cdv A outer s H E, X = cxOf (L2.CX P w) P w K mg base N qual (defScope st) f cdv A outer s H E ∧ RoomG k X.A ∧ EX = fun c d _ H' => E c d H') → Takes X EX → PSs X (defBody st) (tS ⟨K, c, w⟩ EX b)) :
    FnG P w K mg base (k + 1) f fd ps (spG ⟨K, c, w⟩ n (runB N.length b)) := by
  refine fnG_of F S (fun vs H Q E h => by rw [hn]; exact h.1) fun cdv A outer s H vs Q E hr h => ?_
  obtain ⟨hl, W, ρ, A', ds, hR, rv, hP⟩ := h
  refine ⟨_, hb (cxOf (L2.CX P w) P w K mg base N qual (defScope st) f cdv A outer s H E) (fun c d _ H' => E c d H') ⟨cdv, A, outer, s, H, E, rfl, hr, rfl⟩ (takes_of rfl rfl rfl rfl), ?_⟩
  exact ⟨W, ρ, A', _, hR, ER.start rv, endB_post (EX := fun c d _ H' => E c d H') (trim_post hR hP)⟩
end
theorem law_callG {P : Program} {w : World} {K : PySem.W.Frag} {mg mb : Str → Option Value} {k : Nat} {fa a : Addr} {fd : FuncData} {x : Str} {sp : Sp} {s₁ : Shared} {vs : List Value} {ns : List Int}
    (KX : K.In s₁.heap) (hns : s₁.heap.Ns mainGlobals mg) (hb : s₁.heap.Ns builtinsNs mb) (hbb : ∀ x : Str, x ≠ "__name__" → mb x = bootBuiltins x) (hlim : s₁.heap.NoLimit) (hg : s₁.gens = #[])
    (ha : s₁.heap.get? a = some { cls := .type "list", data := .seq vs.toArray }) (hi : PyProof.Rows.IntsAre vs ns) (hl : ns.length ≤ sizeLine) (hr : Room k callerA)
    (F : ∀ base : Heap, K.In base → base.Ns mainGlobals mg → FnG P w K mg base k fa fd [x] sp) (hbind : ∀ (s : Shared) (u : Value), BindsTo s fd ⟨[u], []⟩ [(x, u)])
    (hsp : ∀ H : Hp, Only H → SqL K H a (ns.map V.int) → sp [.ref a] H (fun v _ => v = .bl true) fun _ _ _ => False) :
    codeAny (model P w) callerA (.call (.ref fa) ⟨[.ref a], []⟩) (fun r s' => r = .ok (.ret (.bool true)) ∧ OldK s₁.heap s'.heap ∧ s'.os = s₁.os ∧ AllBare s'.gens) s₁ := by
  have rv := vals_ints hi
  have lenV := hi.length
  have core : ∀ H : Hp, Only H → SqL K H a (ns.map V.int) → HOk P w H s₁.heap → (∀ b, H b ≠ none → b = a) → (H a ≠ none → K.lookup a = none) →
      codeAny (model P w) callerA (.call (.ref fa) ⟨[.ref a], []⟩) (fun r s' => r = .ok (.ret (.bool true)) ∧ OldK s₁.heap s'.heap ∧ s'.os = s₁.os ∧ AllBare s'.gens) s₁ := by
    intro H hO hS hok hA hK
    have only : ∀ {b : Addr} {u : HO}, H b = some u → b = a := fun {b u} q => hA b (by rw [q]; simp)
    have noA : ∀ {b : Addr} {o : Obj} {es : Array DictEntry} {ep : Nat}, s₁.heap.get? b = some o → o.data = .dict es ep → H b = none := by
      intro b o es ep e d
      cases q : H b with
      | none => rfl
      | some u =>
        cases only q
        rw [ha] at e
        cases e
        exact nomatch (show Data.seq vs.toArray _ = Data.dict es ep from d)
    have nsK : ∀ {b : Addr} {m : Str → Option Value}, s₁.heap.Ns b m → (hidT s₁.heap H).Ns b m := by
      rintro b m ⟨o, es, ep, e, d, r⟩
      exact ⟨o, es, ep, hidT_get e (noA e d), d, r⟩
    have hKb : K.In (hidT s₁.heap H) := fun b o e => hidT_get (KX b o e) (by
      cases q : H b with
      | none => rfl
      | some u =>
        cases only q
        rw [hK (by rw [q]; simp)] at e
        cases e)
    have hM : Mod K mg (hidT s₁.heap H) := by
      obtain ⟨mc, h1, h2⟩ := hlim
      exact ⟨hKb, nsK hns, ⟨mb, nsK hb, hbb⟩, ⟨mc, nsK h1, h2⟩⟩
    have e0 : Env0 P w K mg (hidT s₁.heap H) callerA [] s₁ H :=
      ⟨rfl, hM, fun b o e => of_hidT e, Nat.le_of_eq (hidT_size _ _), trivial, fun b z => absurd (show b ∈ ([] : List Addr) from z) (by simp), hok, .of_eq hg⟩
    have run := (F _ hKb (nsK hns)).run callerA [] s₁ H ⟨[.ref a], []⟩ [.ref a] [.ref a] _ _ ⟨hr, rfl⟩ e0 (hbind s₁ (.ref a)) (.cons rfl .nil) (hsp H hO hS)
    refine codeAny_mono run fun r s' h => ?_
    match r, h with
    | .error e, h =>
      obtain ⟨_, _, _, _, _, _, _, _, _, _, _, _, z⟩ := h
      exact z.elim
    | .ok .next, h => exact h.elim
    | .ok .brk, h => exact h.elim
    | .ok .cont, h => exact h.elim
    | .ok (.ret u), h =>
      obtain ⟨v, H', os, bare, un, hok', r', q⟩ := h
      have q' : v = .bl true := q
      subst q'
      obtain rfl : u = Value.bool true := r'
      refine ⟨rfl, OldK.of_keep fun b o e => ?_, os, bare⟩
      cases q : H b with
      | none => exact un.keep b o e q (fun z => absurd (show b ∈ ([] : List Addr) from z) (by simp)) (by simp)
      | some u =>
        rcases hO b with z | ⟨ob, xs, z⟩
        · rw [q] at z; cases z
        · obtain ⟨e1, _⟩ := hok b _ z
          obtain ⟨e2, _⟩ := hok' b _ (un.frzs b ob _ z)
          rw [e] at e1
          cases e1
          exact e2
  cases hk : K.lookup a with
  | some o =>
    have e := KX a o hk
    rw [ha] at e
    cases e
    exact core (fun _ => none) (fun _ => .inl rfl) (.inr ⟨_, vs.toArray, _, hk, rfl, rfl, rfl, by rw [List.size_toArray, lenV]; exact hl, by simpa using rv⟩)
      (fun b u z => nomatch (show (none : Option HO) = some u from z)) (fun b z => absurd rfl z) fun z => absurd rfl z
  | none =>
    have at_ : ∀ {b : Addr} {u : HO}, (if b = a then some (HO.frz { cls := .type "list", data := .seq vs.toArray } (.lst (ns.map V.int))) else none) = some u → b = a ∧ u = HO.frz { cls := .type "list", data := .seq vs.toArray } (.lst (ns.map V.int)) := by
      intro b u z
      by_cases hb : b = a
      · rw [if_pos hb] at z; cases z; exact ⟨hb, rfl⟩
      · rw [if_neg hb] at z; cases z
    refine core (fun b => if b = a then some (.frz { cls := .type "list", data := .seq vs.toArray } (.lst (ns.map V.int))) else none) (fun b => ?_) (.inl (.inr ⟨{ cls := .type "list", data := .seq vs.toArray }, if_pos rfl⟩)) (fun b u z => ?_) (fun b z => ?_) fun _ => hk
    · by_cases hb : b = a
      · exact .inr ⟨_, _, if_pos hb⟩
      · exact .inl (if_neg hb)
    · obtain ⟨rfl, rfl⟩ := at_ z
      exact ⟨ha, by rw [List.length_map]; exact hl, vs, _, rv, ha⟩
    · by_cases hb : b = a
      · exact hb
      · exact absurd (if_neg hb) z
theorem sp_law {K : PySem.W.Frag} {c : String → Addr} {m : List D → List O → R D} {H : Hp} {a : Addr} {ns : List Int} {A : List O} (hS : SqL K H a (ns.map V.int)) (h : m [.scr (ns.map D.int)] [] = .ok (.bl true) A) :
    spG ⟨K, c, w⟩ 1 m [.ref a] H (fun v _ => v = .bl true) fun _ _ _ => False := by
  have rs : ∀ l : List Int, VRs ⟨K, c, w⟩ H [] (l.map D.int) (l.map V.int) := by
    intro l
    induction l with
    | nil => exact .nil
    | cons x r ih => exact .cons (.int x) ih
  refine ⟨rfl, H, [], [], [.scr (ns.map D.int)], ⟨fun _ _ e => e, rfl, List.nodup_nil, fun n o a e => by simp at e, fun n o a e => by simp at e, fun n a e => by simp at e⟩, .cons (.scr hS (rs ns)) .nil, ?_⟩
  rw [h]
  intro W' ρ' H' v e R' r
  cases r
  rfl
theorem bt_len : bootBuiltins "len" = some (.builtin "len") := by decide +kernel
theorem bt_isinstance : bootBuiltins "isinstance" = some (.builtin "isinstance") := by decide +kernel
theorem bt_int : bootBuiltins "int" = some (.type "int") := by decide +kernel
section
variable {X : Cx} {c : String → Addr} {EX : WX} {x : Str} {pos : Pos}
def dAddI (x y : D) (A : List O) : R D := match x, y with
  | .int i, .int j => .ok (.int (i + j)) A
  | _, _ => .no
end
end Vi
end
section
namespace Vi
open PySem PySem.Spec L2
@[simp ↓] theorem bind_e {α β : Type} (r : R α) (f : α → List O → R β) : r.bind f = (match r with
  | .ok a A => f a A
  | .ex c fs A => .ex c fs A
  | .no => .no) := rfl
section
variable {α : Type} {σ : Env} {A : List O} {ma mb mc mo mi : M D} {mr : M (List D)} {t1 t2 : M Bool} {a b : SM} {i : Nat} {f g : D → D → List O → R D} {fz : Bool}
@[simp ↓] theorem mVar_e : mVar i σ A = (match σ[i]? with
  | some (some d) => .ok d A
  | _ => .no) := rfl
@[simp ↓] theorem mC_e {d : D} : mC d σ A = .ok d A := rfl
@[simp ↓] theorem m1_e {f : D → List O → R D} : m1 f ma σ A = (ma σ A).bind f := rfl
@[simp ↓] theorem m2_e : m2 f ma mb σ A = (ma σ A).bind fun x A => (mb σ A).bind fun y A => f x y A := rfl
@[simp ↓] theorem mArgs0_e : mArgs0 σ A = .ok [] A := rfl
@[simp ↓] theorem mArgs_e : mArgs ma mr σ A = (ma σ A).bind fun x A => (mr σ A).bind fun xs A => .ok (x :: xs) A := rfl
@[simp ↓] theorem mA_e {f : List D → List O → R D} : mA f mr σ A = (mr σ A).bind f := rfl
@[simp ↓] theorem mCall_e {m : List D → List O → R D} : mCall m [] mr σ A = (mr σ A).bind fun xs A => m xs A := by
  unfold mCall
  simp only [List.append_nil]
theorem mCall_d {m : List D → List O → R D} {dds : List D} : mCall m dds mr σ A = (mr σ A).bind fun xs A => m (xs ++ dds) A := rfl
@[simp ↓] theorem mMeth_e {c : D → List O → Bool} {f : D → List D → List O → R D} : mMeth c f ma mr σ A = (ma σ A).bind fun x A => if c x A then (mr σ A).bind fun xs A => f x xs A else .no := rfl
@[simp ↓] theorem mMeth0_e {c : D → List O → Bool} {f : D → List D → List O → R D} : mMeth0 c f ma σ A = (ma σ A).bind fun x A => if c x A then f x [] A else .no := rfl
@[simp ↓] theorem mSl_e {ml mh : M (Option Int)} : mSl fz ma ml mh σ A = (ma σ A).bind fun x A => (ml σ A).bind fun lo A => (mh σ A).bind fun hi A => dSl fz x lo hi A := rfl
@[simp ↓] theorem mNoPart_e : mNoPart σ A = .ok none A := rfl
@[simp ↓] theorem mPart_e : mPart ma σ A = (ma σ A).bind fun x A => match x with
  | .int i => .ok (some i) A
  | _ => .no := rfl
@[simp ↓] theorem mChain_e : mChain f g ma mb mc σ A = (ma σ A).bind fun x A => (mb σ A).bind fun y A => (f x y A).bind fun z A => match z with
  | .bl true => (mc σ A).bind fun w A => g y w A
  | .bl false => .ok (.bl false) A
  | _ => .no := rfl
@[simp ↓] theorem mBl_e : mBl ma σ A = (ma σ A).bind fun x A => match x with
  | .bl b => .ok b A
  | _ => .no := rfl
@[simp ↓] theorem mTru_e : mTru ma σ A = (ma σ A).bind dTru := rfl
@[simp ↓] theorem mNotT_e : mNotT t1 σ A = (t1 σ A).bind fun b A => .ok (!b) A := rfl
@[simp ↓] theorem mAndT_e : mAndT t1 t2 σ A = (t1 σ A).bind fun b A => if b then t2 σ A else .ok false A := rfl
@[simp ↓] theorem mOrT_e : mOrT t1 t2 σ A = (t1 σ A).bind fun b A => if b then .ok true A else t2 σ A := rfl
@[simp ↓] theorem mIte_e : mIte t1 ma mb σ A = (t1 σ A).bind fun b A => if b then ma σ A else mb σ A := rfl
@[simp ↓] theorem mAnd_e : mAnd ma mb σ A = (ma σ A).bind fun x A => match x with
  | .bl true => mb σ A
  | .bl false => .ok (.bl false) A
  | _ => .no := rfl
@[simp ↓] theorem mOr_e : mOr ma mb σ A = (ma σ A).bind fun x A => match x with
  | .bl true => .ok (.bl true) A
  | .bl false => mb σ A
  | _ => .no := rfl
@[simp ↓] theorem mSrc_e : mSrc ma σ A = (ma σ A).bind srcOf := rfl
@[simp ↓] theorem mSrcA_e {f : List D → List O → R Src} : mSrcA f mr σ A = (mr σ A).bind f := rfl
@[simp ↓] theorem mYes_e : mYes σ A = .ok true A := rfl
@[simp ↓] theorem mLc_e {ms : M Src} {tg : TgM} {vs : List Nat} : mLc fz ms tg t1 ma vs σ A = (ms σ A).bind fun s A => (lcD s.ok tg t1 ma (wipeD σ vs) s.items [] A).bind fun ds A => newL fz ds A := rfl
@[simp ↓] theorem withE_e {m : M α} {k : Env → α → List O → R Fl} : withE m k σ A = (match m σ A with
  | .ok x A => k σ x A
  | .ex c fs A => .ok (.xc c fs σ) A
  | .no => .no) := rfl
@[simp ↓] theorem sExpr_e : sExpr ma σ A = withE ma (fun σ _ A => .ok (.nx σ) A) σ A := rfl
@[simp ↓] theorem sRet_e : sRet ma σ A = withE ma (fun _ d A => .ok (.rt d) A) σ A := rfl
@[simp ↓] theorem sRetN_e : sRetN σ A = .ok (.rt .non) A := rfl
@[simp ↓] theorem sPass_e : sPass σ A = .ok (.nx σ) A := rfl
@[simp ↓] theorem sBreak_e : sBreak σ A = .ok (.bk σ) A := rfl
@[simp ↓] theorem sSet_e : sSet i ma σ A = withE ma (fun σ d A => .ok (.nx (σ.set i (some d))) A) σ A := rfl
@[simp ↓] theorem sIf_e : sIf t1 a b σ A = withE t1 (fun σ k A => if k then a σ A else b σ A) σ A := rfl
@[simp ↓] theorem sSeq_e : sSeq a b σ A = (match a σ A with
  | .ok (.nx σ) A => b σ A
  | r => r) := rfl
@[simp ↓] theorem sAug_e : sAug i f ma σ A = (match σ[i]? with
  | some (some x) => withE (fun σ A => (ma σ A).bind fun y A => f x y A) (fun σ d A => .ok (.nx (σ.set i (some d))) A) σ A
  | _ => .no) := rfl
@[simp ↓] theorem sRetF_e : sRetF i σ A = (match σ[i]? with
  | some (some (.ref n)) => match A[n]? with
    | some (.lst ds) => .ok (.rt (.lst ds)) (A.set n .dead)
    | _ => .no
  | _ => .no) := rfl
@[simp ↓] theorem sAsg_e {mt : TgM} : sAsg ma mt σ A = withE ma (fun σ d A => match mt d σ A with
  | .ok σ A => .ok (.nx σ) A
  | _ => .no) σ A := rfl
@[simp ↓] theorem sFor_e {ms : M Src} {tg : TgM} : sFor ms tg a σ A = withE ms (fun σ s A => forD s.ok tg a s.items σ A) σ A := rfl
@[simp ↓] theorem tgN_e {d : D} : tgN i d σ A = .ok (σ.set i (some d)) A := rfl
@[simp ↓] theorem tgT_e {n : Nat} {r : List D → Env → List O → R Env} {ds : List D} : tgT n r (.tup ds) σ A = if ds.length = n then r ds σ A else .no := rfl
@[simp ↓] theorem tgT_l {n : Nat} {r : List D → Env → List O → R Env} {ds : List D} : tgT n r (.lst ds) σ A = if ds.length = n then r ds σ A else .no := rfl
@[simp ↓] theorem tgsNil_e : tgsNil [] σ A = .ok σ A := rfl
@[simp ↓] theorem tgsCons_e {t : TgM} {r : List D → Env → List O → R Env} {d : D} {ds : List D} : tgsCons t r (d :: ds) σ A = (t d σ A).bind fun σ A => r ds σ A := rfl
@[simp ↓] theorem tgSub_e {d : D} : tgSub mo mi d σ A = (mo σ A).bind fun o A => (mi σ A).bind fun i A => match setIx o i d A with
  | some A => .ok σ A
  | none => .no := rfl
@[simp ↓] theorem runB_e {N : Nat} {args : List D} : runB N a args A = trimR A (endB (a (args.map some ++ List.replicate (N - args.length) none) A)) := rfl
theorem trimR_of {d : D} {A' : List O} (h : TrimC A d A') : trimR A (.ok d A') = .ok d (A'.take A.length) := if_pos h
@[simp] theorem trimR_no : trimR A .no = .no := rfl
@[simp] theorem trimR_ex {c : String} {fs : List (Str × D)} {A' : List O} : trimR A (.ex c fs A') = .ex c fs A' := rfl
@[simp] theorem trimR_len {d : D} {A' : List O} (h : A'.length = A.length) : trimR A (.ok d A') = .ok d A' := by
  unfold trimR
  simp only
  split
  · rw [← h, List.take_length]
  · rfl
@[simp] theorem trimR_nr {d : D} {A' : List O} (h : noR d = false) : trimR A (.ok d A') = .ok d A' := by
  unfold trimR
  simp only
  rw [if_neg]
  rintro ⟨_, h2, _⟩
  rw [h] at h2; cases h2
@[simp] theorem trimR_same {d : D} : trimR A (.ok d A) = .ok d A := trimR_len rfl
@[simp] theorem trimR_app {d : D} {B : List O} (h : noR d = true) : trimR A (.ok d (A ++ B)) = .ok d A := by
  rw [trimR_of ⟨by simp, h, fun i hi => .inl (List.getElem?_append_left hi)⟩, List.take_left]
@[simp] theorem noR_tup {ds : List D} : noR (.tup ds) = ds.all noR := by rw [noR, noRs_all]
@[simp] theorem noR_lst {ds : List D} : noR (.lst ds) = ds.all noR := by rw [noR, noRs_all]
@[simp] theorem noR_scr {ds : List D} : noR (.scr ds) = ds.all noR := by rw [noR, noRs_all]
@[simp] theorem noR_obj {c : String} {ns : List Str} {ds : List D} : noR (.obj c ns ds) = ds.all noR := by rw [noR, noRs_all]
@[simp] theorem noR_dw {ks : List (List Bool)} {ds : List D} : noR (.dw ks ds) = ds.all noR := by rw [noR, noRs_all]
@[simp] theorem noR_dz {ks : List Key} {ds : List D} : noR (.dz ks ds) = ds.all noR := by rw [noR, noRs_all]
@[simp] theorem noR_dk {ks : List Key} {ds : List D} : noR (.dk ks ds) = ds.all noR := by rw [noR, noRs_all]
@[simp] theorem noR_db {ks : List (List Bool)} {ds : List D} : noR (.db ks ds) = ds.all noR := by rw [noR, noRs_all]
@[simp] theorem noR_ref {n : Nat} : noR (.ref n) = false := by rw [noR]
@[simp] theorem noR_non : noR .non = true := by rw [noR]
@[simp] theorem noR_bl {b : Bool} : noR (.bl b) = true := by rw [noR]
@[simp] theorem noR_int {i : Int} : noR (.int i) = true := by rw [noR]
@[simp] theorem noR_str {s : Str} : noR (.str s) = true := by rw [noR]
@[simp] theorem noR_ty {t : Ty} : noR (.ty t) = true := by rw [noR]
@[simp] theorem noR_exc {c : String} {ns : List Str} {ds : List D} : noR (.exc c ns ds) = ds.all noR := by rw [noR, noRs_all]
@[simp] theorem noR_rng {i j : Int} : noR (.rng i j) = true := by rw [noR]
@[simp] theorem noRO_lst {ds : List D} : noRO (.lst ds) = ds.all noR := by rw [noRO, noRs_all]
@[simp] theorem noRO_dead : noRO .dead = true := rfl
@[simp] theorem endB_nx : endB (.ok (.nx σ) A) = .ok .non A := rfl
@[simp] theorem endB_rt {d : D} : endB (.ok (.rt d) A) = .ok d A := rfl
@[simp] theorem endB_xc {c : String} {fs : List (Str × D)} : endB (.ok (.xc c fs σ) A) = .ex c fs A := rfl
end
section
variable {A : List O} {i j : Int} {p q : Bool} {s t : Str} {ds es : List D} {n : Nat} {x y : D} {fz neg : Bool}
@[simp] theorem lstOf_lst : lstOf (.lst ds) A = some ds := rfl
@[simp] theorem lstOf_ref : lstOf (.ref n) A = (match A[n]? with
  | some (.lst ds) => some ds
  | _ => none) := rfl
@[simp] theorem lstOf_scr : lstOf (.scr ds) A = none := rfl
@[simp] theorem lstOf_tup : lstOf (.tup ds) A = none := rfl
@[simp] theorem lstOf_str : lstOf (.str s) A = none := rfl
@[simp] theorem seqOf_lst : seqOf (.lst ds) A = some ds := rfl
@[simp] theorem seqOf_ref : seqOf (.ref n) A = lstOf (.ref n) A := rfl
@[simp] theorem seqOf_scr : seqOf (.scr ds) A = some ds := rfl
@[simp] theorem seqOf_tup : seqOf (.tup ds) A = some ds := rfl
@[simp] theorem newL_t (h : ds.length < 16777216) : newL true ds A = .ok (.lst ds) A := by
  unfold newL
  rw [sizeLine_eq, if_pos h]
  rfl
@[simp] theorem newL_f (h : ds.length < 16777216) : newL false ds A = .ok (.ref A.length) (A ++ [.lst ds]) := by
  unfold newL
  rw [sizeLine_eq, if_pos h]
  rfl
@[simp] theorem dAdd_ii : dAdd fz (.int i) (.int j) A = .ok (.int (i + j)) A := rfl
@[simp] theorem dAdd_ss (h : s.length + t.length ≤ 16777216) : dAdd fz (.str s) (.str t) A = .ok (.str (s ++ t)) A := by
  show (if s.length + t.length ≤ sizeLine then _ else _) = _
  rw [sizeLine_eq, if_pos h]
@[simp] theorem dAdd_tt (h : ds.length + es.length ≤ 16777216) : dAdd fz (.tup ds) (.tup es) A = .ok (.tup (ds ++ es)) A := by
  show (if ds.length + es.length ≤ sizeLine then _ else _) = _
  rw [sizeLine_eq, if_pos h]
@[simp] theorem dAdd_ll : dAdd fz (.lst ds) (.lst es) A = newL fz (ds ++ es) A := rfl
@[simp] theorem dAdd_lr : dAdd fz (.lst ds) (.ref n) A = (match lstOf (.ref n) A with
  | some es => newL fz (ds ++ es) A
  | none => .no) := by
  unfold dAdd
  simp only [lstOf_lst]
  cases lstOf (.ref n) A <;> rfl
@[simp] theorem dAdd_rl : dAdd fz (.ref n) (.lst es) A = (match lstOf (.ref n) A with
  | some ds => newL fz (ds ++ es) A
  | none => .no) := by
  unfold dAdd
  simp only [lstOf_lst]
  cases lstOf (.ref n) A <;> rfl
@[simp] theorem dAdd_rr {m : Nat} : dAdd fz (.ref n) (.ref m) A = (match lstOf (.ref n) A, lstOf (.ref m) A with
  | some ds, some es => newL fz (ds ++ es) A
  | _, _ => .no) := rfl
@[simp] theorem dSub_ii : dSub (.int i) (.int j) A = .ok (.int (i - j)) A := rfl
@[simp] theorem dMul_r (h1 : -18446744073709551616 < j) (h2 : j < 18446744073709551616) : dMul (.int i) (.int j) A = .ok (.int (i * j)) A := if_pos (.inr ⟨h1, h2⟩)
@[simp] theorem dMul_l (h1 : -18446744073709551616 < i) (h2 : i < 18446744073709551616) : dMul (.int i) (.int j) A = .ok (.int (i * j)) A := if_pos (.inl ⟨h1, h2⟩)
@[simp] theorem dMod_ii (h : 0 < j) : dMod (.int i) (.int j) A = .ok (.int (i % j)) A := if_pos h
theorem small_8999 {n : Nat} (h : n < 2 ^ 64) : n < 2 ^ 8999 := Nat.lt_of_lt_of_le h (Nat.pow_le_pow_right (by decide) (by decide))
@[simp] theorem dFdiv_s (h0 : 0 < j) (h1 : j < 18446744073709551616) : dFdiv (.int i) (.int j) A = .ok (.int (i / j)) A := by
  exact if_pos ⟨h0, small_8999 (by omega)⟩
@[simp] theorem dPow_ii (h0 : 0 ≤ j) (h1 : j ≤ 1000000) (h2 : i.natAbs < 18446744073709551616) : dPow (.int i) (.int j) A = .ok (.int (i ^ j.toNat)) A := if_pos ⟨h0, h1, h2⟩
@[simp] theorem dShl_ii (h0 : 0 ≤ j) (h1 : j ≤ 1000000) (h2 : i.natAbs < 18446744073709551616) : dShl (.int i) (.int j) A = .ok (.int (i * 2 ^ j.toNat)) A := if_pos ⟨h0, h1, h2⟩
@[simp] theorem dShr_ii (h0 : 0 ≤ j) : dShr (.int i) (.int j) A = .ok (.int (i / 2 ^ j.toNat)) A := if_pos h0
@[simp] theorem dBand_ii : dBand (.int i) (.int j) A = .ok (.int (Builtin.bitAnd i j)) A := rfl
@[simp] theorem dNeg_i : dNeg (.int i) A = .ok (.int (-i)) A := rfl
@[simp] theorem dNot_b : dNot (.bl p) A = .ok (.bl (!p)) A := rfl
@[simp] theorem dLt_ii : dLt (.int i) (.int j) A = .ok (.bl (decide (i < j))) A := rfl
@[simp] theorem dLe_ii : dLe (.int i) (.int j) A = .ok (.bl (decide (i ≤ j))) A := rfl
@[simp] theorem dGt_ii : dGt (.int i) (.int j) A = .ok (.bl (decide (j < i))) A := rfl
@[simp] theorem dGe_ii : dGe (.int i) (.int j) A = .ok (.bl (decide (j ≤ i))) A := rfl
@[simp] theorem dAddI_ii : dAddI (.int i) (.int j) A = .ok (.int (i + j)) A := rfl
@[simp] theorem isNon_non : isNon .non = true := rfl
@[simp] theorem isNon_bl : isNon (.bl p) = false := rfl
@[simp] theorem isNon_int : isNon (.int i) = false := rfl
@[simp] theorem isNon_str : isNon (.str s) = false := rfl
@[simp] theorem isNon_tup : isNon (.tup ds) = false := rfl
@[simp] theorem isNon_lst : isNon (.lst ds) = false := rfl
@[simp] theorem isNon_ref : isNon (.ref n) = false := rfl
@[simp] theorem dIs_n : dIs x .non A = .ok (.bl (isNon x)) A := by cases x <;> rfl
@[simp] theorem dIs_b : dIs (.bl p) (.bl q) A = .ok (.bl (decide (p = q))) A := rfl
@[simp] theorem dIsNot_n : dIsNot x .non A = .ok (.bl (!isNon x)) A := by cases x <;> rfl
@[simp] theorem dIsNot_b : dIsNot (.bl p) (.bl q) A = .ok (.bl (!decide (p = q))) A := rfl
@[simp] theorem dEq_ss : dEq (.str s) (.str t) A = .ok (.bl (decide (s = t))) A := rfl
@[simp] theorem dEq_ii : dEq (.int i) (.int j) A = .ok (.bl (i == j)) A := rfl
@[simp] theorem dEq_bb : dEq (.bl p) (.bl q) A = .ok (.bl (p == q)) A := rfl
@[simp] theorem dNe_ss : dNe (.str s) (.str t) A = .ok (.bl (!decide (s = t))) A := rfl
@[simp] theorem dNe_ii : dNe (.int i) (.int j) A = .ok (.bl (!(i == j))) A := rfl
@[simp] theorem dNe_bb : dNe (.bl p) (.bl q) A = .ok (.bl (!(p == q))) A := rfl
@[simp] theorem dIx_t : dIx (.tup ds) (.int i) A = (match atI ds i with
  | some d => .ok d A
  | none => .no) := rfl
@[simp] theorem dIx_l : dIx (.lst ds) (.int i) A = (match atI ds i with
  | some d => .ok d A
  | none => .no) := rfl
@[simp] theorem dIx_c : dIx (.scr ds) (.int i) A = (match atI ds i with
  | some d => .ok d A
  | none => .no) := rfl
@[simp] theorem dIx_r : dIx (.ref n) (.int i) A = (match lstOf (.ref n) A with
  | some ds => match atI ds i with
    | some d => .ok d A
    | none => .no
  | none => .no) := rfl
@[simp] theorem dIx_s (h : s.length ≤ 16777216) : dIx (.str s) (.int i) A = (match atI s.cps.toList i with
    | some c => .ok (.str ⟨#[c]⟩) A
    | none => .no) := by
  show (if s.length ≤ sizeLine then _ else _) = _
  rw [sizeLine_eq, if_pos h]
  all_goals rfl
theorem atI_at {α : Type} {xs : List α} {k : Nat} {v : α} (h : xs[k]? = some v) : atI xs (k : Int) = some v := atI_nat h
theorem atI_i {α : Type} {xs : List α} {i : Int} (h0 : 0 ≤ i) (h1 : i < xs.length) : atI xs i = xs[i.toNat]? := by
  unfold atI ixN
  rw [if_pos h0, if_pos h1]
  rfl
@[simp] theorem dTru_b : dTru (.bl p) A = .ok p A := rfl
@[simp] theorem dTru_n : dTru .non A = .ok false A := rfl
@[simp] theorem dTru_i : dTru (.int i) A = .ok (i != 0) A := rfl
@[simp] theorem dTru_t : dTru (.tup ds) A = .ok (!ds.isEmpty) A := rfl
@[simp] theorem dTru_l : dTru (.lst ds) A = .ok (!ds.isEmpty) A := rfl
@[simp] theorem fTup_e (h : ds.length ≤ 16777216) : fTup ds A = .ok (.tup ds) A := by
  unfold fTup
  rw [sizeLine_eq, if_pos h]
@[simp] theorem fLen_c : fLen [.scr ds] A = .ok (.int ds.length) A := rfl
@[simp] theorem fLen_t : fLen [.tup ds] A = .ok (.int ds.length) A := rfl
@[simp] theorem fLen_l : fLen [.lst ds] A = .ok (.int ds.length) A := rfl
@[simp] theorem fLen_r : fLen [.ref n] A = (match lstOf (.ref n) A with
  | some ds => .ok (.int ds.length) A
  | none => .no) := rfl
@[simp] theorem fLen_s (h : s.length ≤ 16777216) : fLen [.str s] A = .ok (.int s.length) A := by
  show (if s.length ≤ sizeLine then _ else _) = _
  rw [sizeLine_eq, if_pos h]
@[simp] theorem fInt_i : fInt [.int i] A = .ok (.int i) A := rfl
@[simp] theorem fInt_b : fInt [.bl p] A = .ok (.int (if p then 1 else 0)) A := rfl
@[simp] theorem fMin2_e : fMin2 [.int i, .int j] A = .ok (.int (if j < i then j else i)) A := rfl
@[simp] theorem fMax2_e : fMax2 [.int i, .int j] A = .ok (.int (if j > i then j else i)) A := rfl
@[simp] theorem fTupOf_l : fTupOf [.lst ds] A = .ok (.tup ds) A := rfl
@[simp] theorem fTupOf_t : fTupOf [.tup ds] A = .ok (.tup ds) A := rfl
@[simp] theorem fTupOf_r : fTupOf [.ref n] A = (match lstOf (.ref n) A with
  | some ds => .ok (.tup ds) A
  | none => .no) := rfl
@[simp] theorem fListOf_l : fListOf fz [.lst ds] A = newL fz ds A := rfl
@[simp] theorem fListOf_t : fListOf fz [.tup ds] A = newL fz ds A := rfl
@[simp] theorem fListOf_r : fListOf fz [.ref n] A = (match lstOf (.ref n) A with
  | some ds => newL fz ds A
  | none => .no) := rfl
@[simp] theorem bools_map : ∀ bs : List Bool, bools (bs.map D.bl) = some bs
  | [] => rfl
  | b :: bs => by rw [List.map_cons, bools, bools_map bs]; rfl
@[simp] theorem ints_map : ∀ bs : List Int, intsOf (bs.map D.int) = some bs
  | [] => rfl
  | b :: bs => by rw [List.map_cons, intsOf, ints_map bs]; rfl
@[simp] theorem fAll_e {bs : List Bool} : fAll [.lst (bs.map D.bl)] A = .ok (.bl (bs.all id)) A := by
  unfold fAll
  simp only [lstOf_lst, Option.bind_some, bools_map]
@[simp] theorem fAny_e {bs : List Bool} : fAny [.lst (bs.map D.bl)] A = .ok (.bl (bs.any id)) A := by
  unfold fAny
  simp only [lstOf_lst, Option.bind_some, bools_map]
@[simp] theorem fSum_e {bs : List Int} : fSum [.lst (bs.map D.int)] A = .ok (.int bs.sum) A := by
  unfold fSum
  simp only [lstOf_lst, Option.bind_some, ints_map]
@[simp] theorem srcOf_t : srcOf (.tup ds) A = .ok (.fix ds) A := rfl
@[simp] theorem srcOf_l : srcOf (.lst ds) A = .ok (.fix ds) A := rfl
@[simp] theorem srcOf_c : srcOf (.scr ds) A = .ok (.fix ds) A := rfl
@[simp] theorem srcOf_r : srcOf (.ref n) A = (match A[n]? with
  | some (.lst ds) => .ok (.live (.ref n) ds) A
  | _ => .no) := rfl
@[simp] theorem fRange1_e (h0 : -4611686018427387904 ≤ j) (h1 : j < 4611686018427387904) : fRange1 [.int j] A = .ok (.fix (rng 0 j.toNat)) A := if_pos ⟨h0, h1⟩
@[simp] theorem fRange2_e (h0 : -4611686018427387904 ≤ i) (h1 : i < 4611686018427387904) (h2 : -4611686018427387904 ≤ j) (h3 : j < 4611686018427387904) : fRange2 [.int i, .int j] A = .ok (.fix (rng i (j - i).toNat)) A := if_pos ⟨h0, h1, h2, h3⟩
@[simp] theorem fEnum_l : fEnum [.lst ds] A = .ok (.fix (enumD 0 ds)) A := rfl
@[simp] theorem fZip_tt : fZip [.tup ds, .tup es] A = .ok (.fix (zipD ds es)) A := rfl
@[simp] theorem fZip_ll : fZip [.lst ds, .lst es] A = .ok ⟨fun A => lstOf (.lst ds) A = some ds ∧ lstOf (.lst es) A = some es, zipD ds es⟩ A := rfl
@[simp] theorem isL_r : isL (.ref n) A = (lstOf (.ref n) A).isSome := by
  unfold isL
  simp
@[simp] theorem isS_s : isS (.str s) A = true := rfl
@[simp] theorem ourL_r : ourL (.ref n) A = (match A[n]? with
  | some (.lst ds) => some (n, ds)
  | _ => none) := rfl
end
theorem set_at {A : List O} {n : Nat} {o o' : O} (h : A[n]? = some o) : (A.set n o')[n]? = some o' := by
  rw [List.getElem?_set_self (List.getElem?_eq_some_iff.mp h).1]
end Vi
end
section
namespace Vi
open PySem PySem.Spec L2
section
variable {α : Type} {x y z w : α} {xs : List α}
@[simp] theorem atI_0 : atI (x :: xs) 0 = some x := by simp [atI, ixN]
@[simp] theorem atI_1 : atI (x :: y :: xs) 1 = some y := by
  have : (1 : Int) < (xs.length : Int) + 1 + 1 := by omega
  simp [atI, ixN, this]
@[simp] theorem atI_2 : atI (x :: y :: z :: xs) 2 = some z := by
  have : (2 : Int) < (xs.length : Int) + 1 + 1 + 1 := by omega
  simp [atI, ixN, this]
@[simp] theorem atI_3 : atI (x :: y :: z :: w :: xs) 3 = some w := by
  have : (3 : Int) < (xs.length : Int) + 1 + 1 + 1 + 1 := by omega
  simp [atI, ixN, this]
end
theorem lcD_pure {ok : List O → Prop} {tg : TgM} {mt : M Bool} {me : M D} {σ : Env} {A : List O} (p : D → Bool) (f : D → D) (hok : ok A) :
    ∀ {ds acc : List D}, acc.length + ds.length ≤ 16777216 →
    (∀ d ∈ ds, ∃ σ1, tg d σ A = .ok σ1 A ∧ mt σ1 A = .ok (p d) A ∧ (p d = true → me σ1 A = .ok (f d) A)) →
    lcD ok tg mt me σ ds acc A = .ok (acc ++ (ds.filter p).map f) A
  | [], acc, _, _ => by rw [lcD, if_pos hok]; simp
  | d :: ds, acc, hl, hs => by
    obtain ⟨σ1, e1, e2, e3⟩ := hs d (List.mem_cons_self ..)
    have hl2 : acc.length < sizeLine := by rw [sizeLine_eq]; simp only [List.length_cons] at hl; omega
    rw [lcD, if_pos ⟨hok, hl2⟩, e1]
    simp only [e2]
    cases hp : p d with
    | true =>
      simp only [e3 hp]
      rw [lcD_pure p f hok (by simp only [List.length_append, List.length_cons, List.length_nil] at hl ⊢; omega) fun d' h' => hs d' (List.mem_cons_of_mem _ h')]
      simp [List.filter, hp]
    | false =>
      simp only
      rw [lcD_pure p f hok (by simp only [List.length_cons] at hl; omega) fun d' h' => hs d' (List.mem_cons_of_mem _ h')]
      simp [List.filter, hp]
theorem lcD_map {ok : List O → Prop} {tg : TgM} {me : M D} {σ : Env} {A : List O} (f : D → D) (hok : ok A) {ds : List D} (hl : ds.length ≤ 16777216)
    (hs : ∀ d ∈ ds, ∃ σ1, tg d σ A = .ok σ1 A ∧ me σ1 A = .ok (f d) A) :
    lcD ok tg mYes me σ ds [] A = .ok (ds.map f) A := by
  rw [lcD_pure (fun _ => true) f hok (by simpa using hl) fun d h => ?_]
  · rw [List.nil_append, List.filter_eq_self.mpr (fun _ _ => rfl)]
  · obtain ⟨σ1, e1, e2⟩ := hs d h
    exact ⟨σ1, e1, rfl, fun _ => e2⟩
@[simp] theorem rng_len {lo : Int} {n : Nat} : (rng lo n).length = n := by simp [rng]
def Grow (n : Nat) (A A' : List O) : Prop := A.length ≤ A'.length ∧ ∀ i, i < A.length → i ≠ n → A'[i]? = A[i]?
theorem Grow.rfl {n : Nat} {A : List O} : Grow n A A := ⟨Nat.le_refl _, fun _ _ _ => Eq.refl _⟩
theorem Grow.trans {n : Nat} {A B C : List O} (h : Grow n A B) (k : Grow n B C) : Grow n A C :=
  ⟨Nat.le_trans h.1 k.1, fun i hi hn => (k.2 i (Nat.lt_of_lt_of_le hi h.1) hn).trans (h.2 i hi hn)⟩
theorem Grow.set {n : Nat} {A : List O} {o : O} : Grow n A (A.set n o) :=
  ⟨by simp, fun i hi hn => by rw [List.getElem?_set_ne (Ne.symm hn)]⟩
theorem Grow.push {n : Nat} {A : List O} {o : O} : Grow n A (A ++ [o]) :=
  ⟨by simp, fun i hi hn => List.getElem?_append_left hi⟩
theorem pick {α β : Type} [Inhabited β] {Q : α → Prop} {P : α → β → Prop} (h : ∀ a, Q a → ∃ b, P a b) : ∃ f : α → β, ∀ a, Q a → P a (f a) := by
  classical
  exact ⟨fun a => if h : ∃ b, P a b then h.choose else default, fun a ha => by
    have := h a ha
    simp only [this, dif_pos]
    exact this.choose_spec⟩
@[simp] theorem shaped_n : SeqAt.shaped .none = true := rfl
@[simp] theorem flatD_s {s : Str} : flatD (.str s) = true := rfl
@[simp] theorem flatD_i {s : Int} : flatD (.int s) = true := rfl
@[simp] theorem flatD_b {s : Bool} : flatD (.bl s) = true := rfl
@[simp] theorem flatD_n : flatD .non = true := rfl
theorem dIn_e {neg : Bool} {x y : D} {ys : List D} {A : List O} (hy : ∀ s, y ≠ .str s) (h : seqOf y A = some ys) (hx : flatD x = true) (hf : ys.all flatD = true) :
    dIn neg x y A = .ok (.bl (if neg then !(ys.any fun z => eqF z x) else ys.any fun z => eqF z x)) A := by
  unfold dIn
  split
  · exact absurd rfl (hy _)
  · rw [h]
    simp only [hx, hf, Bool.and_self, if_true]
@[simp] theorem dIn_ts {s : Str} {ys : List D} {A : List O} (hf : ys.all flatD = true) : dIn false (.str s) (.tup ys) A = .ok (.bl (ys.any fun z => eqF z (.str s))) A := dIn_e (ys := ys) (fun _ => D.noConfusion) rfl rfl hf
@[simp] theorem dNin_ts {s : Str} {ys : List D} {A : List O} (hf : ys.all flatD = true) : dIn true (.str s) (.tup ys) A = .ok (.bl (!ys.any fun z => eqF z (.str s))) A := dIn_e (neg := true) (ys := ys) (fun _ => D.noConfusion) rfl rfl hf
@[simp] theorem dIn_ls {s : Str} {ys : List D} {A : List O} (hf : ys.all flatD = true) : dIn false (.str s) (.lst ys) A = .ok (.bl (ys.any fun z => eqF z (.str s))) A := dIn_e (ys := ys) (fun _ => D.noConfusion) rfl rfl hf
@[simp] theorem dNin_ls {s : Str} {ys : List D} {A : List O} (hf : ys.all flatD = true) : dIn true (.str s) (.lst ys) A = .ok (.bl (!ys.any fun z => eqF z (.str s))) A := dIn_e (neg := true) (ys := ys) (fun _ => D.noConfusion) rfl rfl hf
@[simp] theorem dIn_cs {s : Str} {ys : List D} {A : List O} (hf : ys.all flatD = true) : dIn false (.str s) (.scr ys) A = .ok (.bl (ys.any fun z => eqF z (.str s))) A := dIn_e (ys := ys) (fun _ => D.noConfusion) rfl rfl hf
@[simp] theorem dNin_cs {s : Str} {ys : List D} {A : List O} (hf : ys.all flatD = true) : dIn true (.str s) (.scr ys) A = .ok (.bl (!ys.any fun z => eqF z (.str s))) A := dIn_e (neg := true) (ys := ys) (fun _ => D.noConfusion) rfl rfl hf
@[simp] theorem dIn_ti {s : Int} {ys : List D} {A : List O} (hf : ys.all flatD = true) : dIn false (.int s) (.tup ys) A = .ok (.bl (ys.any fun z => eqF z (.int s))) A := dIn_e (ys := ys) (fun _ => D.noConfusion) rfl rfl hf
@[simp] theorem dNin_ti {s : Int} {ys : List D} {A : List O} (hf : ys.all flatD = true) : dIn true (.int s) (.tup ys) A = .ok (.bl (!ys.any fun z => eqF z (.int s))) A := dIn_e (neg := true) (ys := ys) (fun _ => D.noConfusion) rfl rfl hf
@[simp] theorem dIn_li {s : Int} {ys : List D} {A : List O} (hf : ys.all flatD = true) : dIn false (.int s) (.lst ys) A = .ok (.bl (ys.any fun z => eqF z (.int s))) A := dIn_e (ys := ys) (fun _ => D.noConfusion) rfl rfl hf
@[simp] theorem dNin_li {s : Int} {ys : List D} {A : List O} (hf : ys.all flatD = true) : dIn true (.int s) (.lst ys) A = .ok (.bl (!ys.any fun z => eqF z (.int s))) A := dIn_e (neg := true) (ys := ys) (fun _ => D.noConfusion) rfl rfl hf
@[simp] theorem dIn_ci {s : Int} {ys : List D} {A : List O} (hf : ys.all flatD = true) : dIn false (.int s) (.scr ys) A = .ok (.bl (ys.any fun z => eqF z (.int s))) A := dIn_e (ys := ys) (fun _ => D.noConfusion) rfl rfl hf
@[simp] theorem dNin_ci {s : Int} {ys : List D} {A : List O} (hf : ys.all flatD = true) : dIn true (.int s) (.scr ys) A = .ok (.bl (!ys.any fun z => eqF z (.int s))) A := dIn_e (neg := true) (ys := ys) (fun _ => D.noConfusion) rfl rfl hf
@[simp] theorem dIn_tb {s : Bool} {ys : List D} {A : List O} (hf : ys.all flatD = true) : dIn false (.bl s) (.tup ys) A = .ok (.bl (ys.any fun z => eqF z (.bl s))) A := dIn_e (ys := ys) (fun _ => D.noConfusion) rfl rfl hf
@[simp] theorem dNin_tb {s : Bool} {ys : List D} {A : List O} (hf : ys.all flatD = true) : dIn true (.bl s) (.tup ys) A = .ok (.bl (!ys.any fun z => eqF z (.bl s))) A := dIn_e (neg := true) (ys := ys) (fun _ => D.noConfusion) rfl rfl hf
@[simp] theorem dIn_lb {s : Bool} {ys : List D} {A : List O} (hf : ys.all flatD = true) : dIn false (.bl s) (.lst ys) A = .ok (.bl (ys.any fun z => eqF z (.bl s))) A := dIn_e (ys := ys) (fun _ => D.noConfusion) rfl rfl hf
@[simp] theorem dNin_lb {s : Bool} {ys : List D} {A : List O} (hf : ys.all flatD = true) : dIn true (.bl s) (.lst ys) A = .ok (.bl (!ys.any fun z => eqF z (.bl s))) A := dIn_e (neg := true) (ys := ys) (fun _ => D.noConfusion) rfl rfl hf
@[simp] theorem dIn_cb {s : Bool} {ys : List D} {A : List O} (hf : ys.all flatD = true) : dIn false (.bl s) (.scr ys) A = .ok (.bl (ys.any fun z => eqF z (.bl s))) A := dIn_e (ys := ys) (fun _ => D.noConfusion) rfl rfl hf
@[simp] theorem dNin_cb {s : Bool} {ys : List D} {A : List O} (hf : ys.all flatD = true) : dIn true (.bl s) (.scr ys) A = .ok (.bl (!ys.any fun z => eqF z (.bl s))) A := dIn_e (neg := true) (ys := ys) (fun _ => D.noConfusion) rfl rfl hf
@[simp] theorem eqF_ss {s t : Str} : eqF (.str s) (.str t) = decide (s = t) := rfl
@[simp] theorem eqF_ii {s t : Int} : eqF (.int s) (.int t) = decide (s = t) := rfl
end Vi
end
section
namespace Vi
open PySem PySem.Spec L2
@[simp] theorem atI_4 {α : Type} {a b c d e : α} {xs : List α} : atI (a :: b :: c :: d :: e :: xs) 4 = some e := by
  have : (4 : Int) < (xs.length : Int) + 1 + 1 + 1 + 1 + 1 := by omega
  simp [atI, ixN, this]
@[simp] theorem atI_5 {α : Type} {a b c d e f : α} {xs : List α} : atI (a :: b :: c :: d :: e :: f :: xs) 5 = some f := by
  have : (5 : Int) < (xs.length : Int) + 1 + 1 + 1 + 1 + 1 + 1 := by omega
  simp [atI, ixN, this]
@[simp] theorem dMul_t {ds : List D} {y : D} {A : List O} : dMul (.tup ds) y A = .no := rfl
def orD (f g : D → D → List O → R D) (x y : D) (A : List O) : R D := match f x y A with
  | .no => g x y A
  | r => r
@[simp ↓] theorem orD_e {f g : D → D → List O → R D} {x y : D} {A : List O} : orD f g x y A = (match f x y A with
  | .no => g x y A
  | r => r) := rfl
section
variable {g : G} {W : Hp} {ρ : List Addr} {A : List O} {H : Hp}
def rOr (r r' : R2) : R2 := fun x y H Q => r x y H Q ∨ r' x y H Q
theorem OpS.or {r r' : R2} {f f' : D → D → List O → R D} (h : OpS g r f) (h' : OpS g r' f') : OpS g (rOr r r') (orD f f') := by
  intro EX W ρ A H σ x y v u Q hR rx ry hP
  unfold orD at hP
  cases e : f x y A with
  | no =>
    rw [e] at hP
    exact .inr (h' hR rx ry hP)
  | ok d A' =>
    rw [e] at hP
    exact .inl (h hR rx ry (by rw [e]; exact hP))
  | ex c fs A' =>
    rw [e] at hP
    exact .inl (h hR rx ry (by rw [e]; exact hP))
noncomputable def dRepT (x y : D) (A : List O) : R D := match x, y with
  | .tup ds, .int k => @ite _ (ds ≠ [] ∧ 2 ≤ k ∧ k ≤ 1000 ∧ ds.length ≤ 1000) (Classical.propDecidable _) (.ok (.tup (List.replicate k.toNat ds).flatten) A) .no
  | _, _ => .no
@[simp] theorem dRepT_e {ds : List D} {k : Int} {A : List O} (h0 : ds ≠ []) (h1 : 2 ≤ k) (h2 : k ≤ 1000) (h3 : ds.length ≤ 1000) : dRepT (.tup ds) (.int k) A = .ok (.tup (List.replicate k.toNat ds).flatten) A := if_pos ⟨h0, h1, h2, h3⟩
def dInD (neg : Bool) (x y : D) (A : List O) : R D := match py A 64 x, py A 64 y with
  | some d, some (.list ds) => if SeqAt.shaped d && SeqAt.shaped (.list ds) then .ok (.bl (if neg then !(ds.any fun z => PyData.eqv z d) else ds.any fun z => PyData.eqv z d)) A else .no
  | _, _ => .no
end
end Vi
end
section
namespace Vi
open PySem PySem.Spec L2
open PyProof.Rows (envOfC)
def orM (m m' : M D) : M D := fun σ A => match m σ A with
  | .no => m' σ A
  | r => r
@[simp ↓] theorem orM_e {m m' : M D} {σ : Env} {A : List O} : orM m m' σ A = (match m σ A with
  | .no => m' σ A
  | r => r) := rfl
def fIx (ns : List Str) (f : Str) : Option Nat := ns.findIdx? fun x => decide (x = f)
def insOf (x : D) (A : List O) : Option (String × List Str × List D) := match x with
  | .obj c ns ds => some (c, ns, ds)
  | .ref n => match A[n]? with
    | some (.ins c ns ds) => some (c, ns, ds)
    | _ => none
  | _ => none
def dFld (C : String) (f : Str) (x : D) (A : List O) : R D := match insOf x A with
  | some (c, ns, ds) => if c = C then (match (fIx ns f).bind fun i => ds[i]? with
    | some d => .ok d A
    | none => .no) else .no
  | none => .no
section
variable {X : Cx} {c : String → Addr} {EX : WX} {o value : Expr} {f : Str} {pos pos' : Pos} {mo mv : M D} {C : String} {fs : List Str}
def setFld (C : String) (f : Str) (x d : D) (A : List O) : Option (List O) := match x with
  | .ref n => match A[n]? with
    | some (.ins c ns ds) => if c = C ∧ ns.length < 1000 then (match fIx ns f with
      | some i => some (A.set n (.ins c ns (ds.set i d)))
      | none => some (A.set n (.ins c (ns ++ [f]) (ds ++ [d])))) else none
    | _ => none
  | _ => none
def sFldD (C : String) (f : Str) (mo mv : M D) : SM := withE (fun σ A => (mv σ A).bind fun y A => (mo σ A).bind fun x A => match setFld C f x y A with
  | some A' => R.ok D.non A'
  | none => R.no) fun σ _ A => .ok (.nx σ) A
end
def frz1 (d : D) (A : List O) : D × List O := match d with
  | .ref n => match A[n]? with
    | some (.lst es) => (.lst es, A.set n .dead)
    | some (.dct ks es) => (.dk ks es, A.set n .dead)
    | some (.dtb ks es) => (.db ks es, A.set n .dead)
    | _ => (d, A)
  | d => (d, A)
def frzL : List D → List O → List D × List O
  | [], A => ([], A)
  | d :: ds, A => ((frz1 d A).1 :: (frzL ds (frz1 d A).2).1, (frzL ds (frz1 d A).2).2)
def frzO (n : Nat) (A : List O) : R D := match A[n]? with
  | some (.ins c ns ds) => match (frzL ds A).2[n]? with
    | some (.ins _ _ _) => .ok (.obj c ns (frzL ds A).1) ((frzL ds A).2.set n .dead)
    | _ => .no
  | _ => .no
noncomputable def mMake (fz : Bool) (C : String) (m : List D → List O → R D) (dds : List D) (mr : M (List D)) : M D := fun σ A => (mr σ A).bind fun xs A => trimR A ((m (.ref A.length :: (xs ++ dds)) (A ++ [.ins C [] []])).bind fun v B => match v with
  | .non => if fz then frzO A.length B else .ok (.ref A.length) B
  | _ => .no)
def mMethC (C : String) (name : Str) (m : List D → List O → R D) (dds : List D) (mo : M D) (mr : M (List D)) : M D := fun σ A => (mo σ A).bind fun x A => match insOf x A with
  | some (c, ns, _) => if c = C ∧ fIx ns name = none then (mr σ A).bind fun xs A => m (x :: (xs ++ dds)) A else .no
  | none => .no
end Vi
end
section
namespace Vi
open PySem PySem.Spec L2
def leafB (b : Bool) : Leaf := .num (if b then 1 else 0)
def kIx {κ : Type} [DecidableEq κ] (ks : List κ) (k : κ) : Option Nat := ks.findIdx? fun x => decide (x = k)
theorem kIx_nil {κ : Type} [DecidableEq κ] {k : κ} : kIx ([] : List κ) k = none := rfl
theorem kIx_cons {κ : Type} [DecidableEq κ] {x k : κ} {ks : List κ} : kIx (x :: ks) k = if x = k then some 0 else (kIx ks k).map (· + 1) := by
  unfold kIx
  rw [List.findIdx?_cons]
  by_cases e : x = k
  · rw [decide_eq_true e, if_pos e]; rfl
  · rw [decide_eq_false e, if_neg e]; rfl
theorem kIx_none {κ : Type} [DecidableEq κ] {k : κ} : ∀ {ks : List κ}, kIx ks k = none ↔ k ∉ ks
  | [] => by simp [kIx_nil]
  | x :: ks => by
    rw [kIx_cons]
    by_cases e : x = k
    · simp [e]
    · rw [if_neg e]
      have := kIx_none (k := k) (ks := ks)
      simp [this, Ne.symm e]
theorem KsR.get {K : PySem.W.Frag} {H : Hp} : ∀ {ks : List (List Bool)} {ps : List Addr} {i : Nat} {k : List Bool} {p : Addr}, KsR K H ks ps → ks[i]? = some k → ps[i]? = some p → SqT K H p (k.map V.bl)
  | _, _, _, _, _, .nil, h, _ => by simp at h
  | _, _, 0, _, _, .cons h _, h1, h2 => by simp at h1 h2; subst h1 h2; exact h
  | _, _, i + 1, _, _, .cons _ t, h1, h2 => KsR.get (i := i) t (by simpa using h1) (by simpa using h2)
end Vi
end
section
namespace Vi
open PySem PySem.Spec L2
open PyProof.Rows (subscriptTail)
def keyK (x : D) : Option Key := match x with
  | .int i => some (.inl i)
  | .str s => some (.inr s)
  | _ => none
def rowOf (x : D) : Option (List Bool) := match x with
  | .tup ds => bools ds
  | _ => none
def dInT (neg : Bool) (x y : D) (A : List O) : R D := match y with
  | .dz ks _ => match keyK x with
    | some k => .ok (.bl (if neg then !(kIx ks k).isSome else (kIx ks k).isSome)) A
    | none => .no
  | .dk ks _ => match keyK x with
    | some k => .ok (.bl (if neg then !(kIx ks k).isSome else (kIx ks k).isSome)) A
    | none => .no
  | .db ks _ => match rowOf x with
    | some k => .ok (.bl (if neg then !(kIx ks k).isSome else (kIx ks k).isSome)) A
    | none => .no
  | .dw ks _ => match rowOf x with
    | some k => .ok (.bl (if neg then !(kIx ks k).isSome else (kIx ks k).isSome)) A
    | none => .no
  | .ref n => match A[n]? with
    | some (.dct ks ds) => match keyK x, rowOf x, ks with
      | some k, _, _ => .ok (.bl (if neg then !(kIx ks k).isSome else (kIx ks k).isSome)) A
      | none, some _, [] => .ok (.bl neg) (A.set n (.dtb [] []))
      | _, _, _ => .no
    | some (.dtb ks _) => match rowOf x with
      | some k => .ok (.bl (if neg then !(kIx ks k).isSome else (kIx ks k).isSome)) A
      | none => .no
    | _ => .no
  | _ => .no
section
variable {X : Cx} {c : String → Addr} {EX : WX} {e b : Expr} {ma mb : M D} {pos : Pos}
def mDict0 : M D := fun _ A => .ok (.ref A.length) (A ++ [.dct [] []])
end
def setIxT (o i d : D) (A : List O) : Option (List O) := match o with
  | .ref n => match A[n]? with
    | some (.dct ks ds) => if ks.length < sizeLine then (match keyK i, rowOf i, ks with
      | some k, _, _ => (match kIx ks k with
        | some j => some (A.set n (.dct ks (ds.set j d)))
        | none => some (A.set n (.dct (ks ++ [k]) (ds ++ [d]))))
      | none, some k, [] => some (A.set n (.dtb [k] [d]))
      | _, _, _ => none) else none
    | some (.dtb ks ds) => if ks.length < sizeLine then (match rowOf i with
      | some k => (match kIx ks k with
        | some j => some (A.set n (.dtb ks (ds.set j d)))
        | none => some (A.set n (.dtb (ks ++ [k]) (ds ++ [d]))))
      | none => none) else none
    | _ => none
  | _ => none
def tgSubT (mo mi : M D) : TgM := fun d σ A => (mo σ A).bind fun o A => (mi σ A).bind fun i A => match setIxT o i d A with
  | some A => .ok σ A
  | none => .no
@[simp ↓] theorem tgSubT_e {mo mi : M D} {d : D} {σ : Env} {A : List O} : tgSubT mo mi d σ A = (mo σ A).bind fun o A => (mi σ A).bind fun i A => match setIxT o i d A with
  | some A => .ok σ A
  | none => .no := rfl
end Vi
end
section
namespace Vi
def lexR : List Bool → List Bool → Bool
  | [], [] => false
  | [], _ :: _ => true
  | _ :: _, [] => false
  | a :: x, b :: y => if a = b then lexR x y else (!a && b)
def insR (x : List Bool) : List (List Bool) → List (List Bool)
  | [] => [x]
  | y :: l => if lexR x y then x :: y :: l else y :: insR x l
def sortR : List (List Bool) → List (List Bool)
  | [] => []
  | x :: l => insR x (sortR l)
theorem insR_perm (x : List Bool) : ∀ l, (insR x l).Perm (x :: l)
  | [] => .refl _
  | y :: l => by
    rw [insR]
    split
    · exact .refl _
    · exact ((insR_perm x l).cons y).trans (.swap x y l)
theorem sortR_perm : ∀ l, (sortR l).Perm l
  | [] => .refl _
  | x :: l => (insR_perm x _).trans ((sortR_perm l).cons x)
end Vi
namespace VSort
open PySem PyProof.Rows Srt SrtO
section
variable {prog : Program} {w : World} {A : Around} {E : Value → Shared → Prop} {s : Shared}
def IsRow (h : Heap) (v : Value) (k : List Bool) : Prop := ∃ a o n, v = .ref a ∧ h.get? a = some o ∧ o.cls = .type "tuple" ∧ o.data = .seq (k.map Value.bool).toArray n
theorem IsRow.keeps {h h' : Heap} {v : Value} {k : List Bool} (p : IsRow h v k) (kp : ∀ b o, h.get? b = some o → o.cls = .type "tuple" → h'.get? b = some o) : IsRow h' v k := by
  obtain ⟨a, o, n, e, ho, hc, hd⟩ := p
  exact ⟨a, o, n, e, kp a o ho hc, hc, hd⟩
theorem bools_inj : ∀ {k j : List Bool}, k.map Value.bool = j.map Value.bool → k = j
  | [], [], _ => rfl
  | [], _ :: _, h => by simp at h
  | _ :: _, [], h => by simp at h
  | a :: k, b :: j, h => by
    rw [List.map_cons, List.map_cons] at h
    injection h with h1 h2
    injection h1 with h1
    rw [h1, bools_inj h2]
theorem IsRow.inj {h : Heap} {v : Value} {k j : List Bool} (p : IsRow h v k) (q : IsRow h v j) : k = j := by
  obtain ⟨a, o, n, e, ho, hc, hd⟩ := p
  obtain ⟨a', o', n', e', ho', hc', hd'⟩ := q
  rw [e] at e'; cases e'
  rw [ho] at ho'; cases ho'
  rw [hd] at hd'
  injection hd' with h1 _
  exact bools_inj (by simpa using h1)
end
end VSort
namespace Vi
open PySem PySem.Spec L2
section
variable {X : Cx}
theorem KsR.mem {K : PySem.W.Frag} {H : Hp} : ∀ {ks : List (List Bool)} {ps : List Addr} {p : Addr}, KsR K H ks ps → p ∈ ps → ∃ k ∈ ks, SqT K H p (k.map V.bl)
  | _, _, _, .nil, h => by simp at h
  | _, _, _, .cons h t, hm => by
    rcases List.mem_cons.mp hm with rfl | hm
    · exact ⟨_, List.mem_cons_self .., h⟩
    · obtain ⟨k, h1, h2⟩ := KsR.mem t hm
      exact ⟨k, List.mem_cons_of_mem _ h1, h2⟩
end
def rowsOfD : List D → Option (List (List Bool))
  | [] => some []
  | d :: ds => (rowOf d).bind fun k => (rowsOfD ds).map fun ks => k :: ks
def rowD' (k : List Bool) : D := .tup (k.map D.bl)
def insI (x : Int) : List Int → List Int
  | [] => [x]
  | y :: l => if x < y then x :: y :: l else y :: insI x l
def sortI : List Int → List Int
  | [] => []
  | x :: l => insI x (sortI l)
def fSorted (fz : Bool) (xs : List D) (A : List O) : R D := match xs with
  | [x] => match lstOf x A with
    | some ds => match intsOf ds with
      | some is => newL fz ((sortI is).map D.int) A
      | none => match rowsOfD ds with
        | some rows => if rows.all (fun r => !r.isEmpty) then newL fz ((sortR rows).map rowD') A else .no
        | none => .no
    | none => .no
  | _ => .no
end Vi
end
section
namespace Vi
open PySem PySem.Spec L2
end Vi
end
section
namespace Vi
open PySem PySem.Spec L2
end Vi
end
section
namespace Vi
open PySem PySem.Spec L2
end Vi
end
section
namespace Vi
open PySem PySem.Spec L2
open PyProof.Rows (AllBare)
section
variable {X : Cx} {pins : List (Addr × Obj)} {σ : St} {H : Hp} {sI s s' : Shared} {B : Heap} {a : Addr} {o : HO}
theorem landT (I : Inv X pins σ H sI) (hB : ∀ b u, sI.heap.get? b = some u → b ∉ frs X.stack → B.get? b = some u) (sB : B.StaysIn s'.heap) (hup : sI.heap.UpToSlots s'.heap) (hos : s'.os = sI.os) (hag : AllBare s'.gens)
    (na : H a = none) (nB : B.get? a = none) (nS : a ∉ frs X.stack) (new : ObjOk X.prog X.w (upd H a o) s'.heap a o) : Inv X pins σ (upd H a o) s' := by
  have fr0 : ∀ b ∈ frs X.stack, ∀ u, sI.heap.get? b = some u → ∃ sl, s'.heap.get? b = some { u with slots := sl } := fun b hb u e => by
    obtain ⟨_, u', e', hd⟩ := I.stack.mem hb
    rw [e] at e'
    cases e'
    exact hup b u e hd
  have ne : ∀ b u, sI.heap.get? b = some u → b ≠ a := fun b u e z => by
    subst z
    have := hB b u e nS
    rw [nB] at this
    cases this
  have neH : ∀ {b : Addr} {u : HO}, H b = some u → b ≠ a := fun {b u} e z => by rw [z, na] at e; cases e
  have q : Un (frs X.stack) [] H (upd H a o) sI.heap s'.heap := by
    refine ⟨fun b u e _ hb _ => sB b u (hB b u e hb), fun b u e _ hb _ => fr0 b hb u e, fun b u e n _ => ?_, fun b u e _ => ?_, fun b xs e => ?_, fun b u xs e => ?_, fun b ps e => ⟨#[], ?_⟩⟩
    · rw [upd_ne (ne b u e)]; exact n
    · by_cases hb : b ∈ frs X.stack
      · obtain ⟨sl, z⟩ := fr0 b hb u e
        exact ⟨_, z⟩
      · exact ⟨u, sB b u (hB b u e hb)⟩
    · rw [upd_ne (neH e)]; exact e
    · rw [upd_ne (neH e)]; exact e
    · rw [upd_ne (neH e), e]; simp
  have hok : HOk X.prog X.w (upd H a o) s'.heap := fun b u e => by
    by_cases hb : b = a
    · subst hb
      rw [upd_same] at e
      cases e
      exact new
    · rw [upd_ne hb] at e
      exact ((I.inGround hB).kept sB b u e).stay (fun c v _ z => z) (fun c z => by rw [upd_ne (neH z)]; exact z) fun c xs z => by rw [upd_ne (neH z)]; exact z
  have J := I.call (g' := s'.gens) (t' := s'.toks) (d' := s'.drawn) q hok hag (fun _ z => nomatch z)
  obtain ⟨b1, b2, b3, b4, b5⟩ := s'
  have e5 : b5 = sI.os := hos
  subst e5
  exact J
end
end Vi
end
section
namespace Vi
open PySem PySem.Spec L2
open PyProof.Rows (AllBare)
def sRaise (C : String) : SM := fun σ A => .ok (.xc C [] σ) A
structure RzX (K : PySem.W.Frag) (mg : Str → Option Value) (c : String → Addr) (x : Str) (C : String) : Prop where
  ex : PySem.W.excIn K (c C) [.type "ValueError", .type "Exception", .type "BaseException", .type "object"] "ValueError.__new__" = true
  gl : mg x = some (.ref (c C))
  kp : PySem.W.keepIn K (.ref (c C)) = true
  sb : PySem.W.subIn K (.ref (c C)) (.type "BaseException") = some true
  ty : PySem.W.typeIn K (.ref (c C)) = some (.type "type")
def aftX (i : Nat) (r : R Fl) : R Fl := match r with
  | .ok (.nx σ) A => .ok (.nx (σ.set i none)) A
  | .ok (.bk σ) A => .ok (.bk (σ.set i none)) A
  | .ok (.ct σ) A => .ok (.ct (σ.set i none)) A
  | .ok (.rt d) A => .ok (.rt d) A
  | _ => .no
def sTry (L : List String) (i : Nat) (mb ms : SM) : SM := fun σ A => match mb σ A with
  | .ok (.xc C fs σ1) A1 => if C ∈ L then aftX i (ms (σ1.set i (some (.exc C (fs.map (·.1)) (fs.map (·.2))))) A1) else .no
  | r => r
def fIsX (tab : List (String × Bool)) (x : D) (A : List O) : R D := match x with
  | .non => .ok (.bl false) A
  | .exc C _ _ => match tab.lookup C with
    | some b => .ok (.bl b) A
    | none => .no
  | _ => .no
structure IsC (K : PySem.W.Frag) (C : Addr) : Prop where
  hg : PySem.W.findIn K (.ref C) "__getattribute__" = some (some (.builtin "BaseException.__getattribute__"))
  hk : PySem.W.findIn K (.ref C) "__getattr__" = some none
  hs : PySem.W.subIn K (.ref C) (.type "BaseException") = some true
  hd : PySem.W.hasDictIn K C = true
  ha : PySem.W.findIn K (.ref C) "__class__" = some (some (.builtin "object.__class__"))
  hn : PySem.W.specialIn K (.builtin "object.__class__") "__get__" = some (some (.builtin "getset_descriptor.__get__"))
  ht : PySem.W.takesIn K (.builtin "object.__class__") = some true
  hm : PySem.W.mroIn K C (.type "object") = some true
  ty : PySem.W.typeIn K (.ref C) = some (.type "type")
theorem IsC.cls {K : PySem.W.Frag} {C : Addr} (T : IsC K C) : (PySem.W.clsIn K C).isSome = true := by
  obtain ⟨cd, hc, _⟩ := PySem.W.any_some T.hd
  rw [hc]; rfl
def rIsCl (K : PySem.W.Frag) (us : List Value) (one : Bool) : List V → Hp → VK → Prop := fun xs H Q => ∃ (x cv : V) (b : Bool), xs = [x, cv] ∧
  ((one = true ∧ ∃ u, us = [u] ∧ ∀ w, RelV cv w → w = u) ∨ (one = false ∧ ∃ tp cs, cv = .ref tp ∧ H tp = some (.tup cs) ∧ ∀ ws, Vals cs ws → ws = us)) ∧
  ((x = .non ∧ PySem.W.kitAny K (.type "NoneType") us = some b) ∨ ∃ (a C : Addr) (d : Option Addr), x = .ref a ∧ H a = some (XcO (.ref C) d a) ∧ (d = none ∨ ∃ dx gs, d = some dx ∧ H dx = some (.xd gs)) ∧ IsC K C ∧ PySem.W.kitAny K (.ref C) us = some b) ∧ Q (.bl b) H
theorem kit_one {K : PySem.W.Frag} {t u : Value} {b : Bool} (h : PySem.W.kitAny K t [u] = some b) : PySem.W.kitOne K t u = some b := by
  unfold PySem.W.kitAny at h
  cases e : PySem.W.kitOne K t u with
  | none => rw [e] at h; cases h
  | some v =>
    rw [e] at h
    cases v with
    | true => exact h
    | false => exact h
theorem call_isX {X : Cx} {us : List Value} {one : Bool} : CallR X (.builtin "isinstance") (rIsCl X.K us one) := by
  intro pins s σ H xs ws Q I r h
  obtain ⟨x, cv, b, rfl, hcv, hx, q⟩ := h
  obtain ⟨u1, u2, rfl, r1, r2⟩ := vals2 r
  have fin : ∀ {t : Value} {P : Heap → Prop}, PySem.W.KitX X.K u1 t P → P s.heap → u1 ≠ .builtin "__main__.__loader__#opaque" → PySem.W.kitAny X.K t us = some b → wpAny (model X.prog X.w) X.A (call (.builtin "isinstance") [u1, u2]) (EP X pins σ Q) X.xe s := fun {t P} Z p ne e => by
    rcases hcv with ⟨_, u, rfl, hu⟩ | ⟨_, tp, cs, rfl, hT, hu⟩
    · have := hu _ r2
      subst this
      exact PySem.W.kia_one Z I.kIn p (kit_one e) ne fun tk => ⟨.bl b, H, I.tok tk, rfl, q⟩
    · cases (show u2 = Value.ref tp from r2)
      obtain ⟨_, its, rv, o, h1, h2, n, h3⟩ := (show ObjOk X.prog X.w H s.heap tp (.tup cs) from I.hok tp _ hT)
      have e3 := hu _ rv
      obtain ⟨oc, od, dt, sl⟩ := o
      simp only at h2 h3
      subst h2 h3 e3
      exact PySem.W.kia_tup Z I.kIn p h1 e ne fun tk => ⟨.bl b, H, I.tok tk, rfl, q⟩
  rcases hx with ⟨rfl, e⟩ | ⟨a, C, d, rfl, ha, hd, T, e⟩
  · cases (show u1 = Value.none from r1)
    exact fin PySem.W.kitx_none True.intro (fun z => nomatch z) e
  · cases (show u1 = Value.ref a from r1)
    obtain ⟨⟨oe, vs, e1, ⟨z1, z2⟩, e3⟩, _⟩ := (show ObjOk X.prog X.w H s.heap a (XcO (.ref C) d a) from I.hok a _ ha)
    have nc : PySem.W.notCls oe = true := by unfold PySem.W.notCls; rw [e3] <;> rfl
    have fin2 : ∀ od, PySem.W.InstAt s.heap a oe C od → _ := fun od J => fin (PySem.W.kitx_exc T.cls T.hg T.hk T.hs T.ha T.hn T.ht T.hm (od := od)) J (fun z => nomatch z) e
    rcases hd with rfl | ⟨dx, gs, rfl, hdx⟩
    · exact fin2 none ⟨e1, z1, nc, by rw [z2]; trivial⟩
    · obtain ⟨mA, hns, _⟩ := (show ObjOk X.prog X.w H s.heap dx (.xd gs) from I.hok dx _ hdx)
      obtain ⟨od, ho, _⟩ := lookIn_ns hns
      exact fin2 (some od) ⟨e1, z1, nc, by rw [z2]; exact ho⟩
theorem mem_lookup {C : String} {b : Bool} : ∀ {tab : List (String × Bool)}, tab.lookup C = some b → (C, b) ∈ tab
  | [], h => by cases h
  | (k, v) :: r, h => by
    rw [List.lookup_cons] at h
    split at h
    · rename_i e
      cases h
      rw [beq_iff_eq] at e
      subst e
      exact List.mem_cons_self
    · exact List.mem_cons_of_mem _ (mem_lookup h)
structure KitT (K : PySem.W.Frag) (c : String → Addr) (us : List Value) (tab : List (String × Bool)) : Prop where
  non : PySem.W.kitAny K (.type "NoneType") us = some false
  exc : ∀ p ∈ tab, IsC K (c p.1) ∧ PySem.W.kitAny K (.ref (c p.1)) us = some p.2
section
variable {X : Cx} {c : String → Addr} {EX : WX} {W : Hp} {ρ : List Addr} {A : List O} {H H2 : Hp} {σ : L2.St} {us : List Value} {one : Bool} {tab : List (String × Bool)}
theorem isX_of {x : D} {v cv : V} {Q : VK} (T : KitT X.K c us tab) (hcv : (one = true ∧ ∃ u, us = [u] ∧ ∀ w, RelV cv w → w = u) ∨ (one = false ∧ ∃ tp cs, cv = .ref tp ∧ H tp = some (.tup cs) ∧ ∀ ws, Vals cs ws → ws = us))
    (hR : Rl ⟨X.K, c, X.w⟩ W ρ A H) (rx : VR ⟨X.K, c, X.w⟩ W ρ x v) (h : Post ⟨X.K, c, X.w⟩ (VR ⟨X.K, c, X.w⟩) EX W ρ H σ (fIsX tab x A) Q) : rIsCl X.K us one [v, cv] H Q := by
  unfold fIsX at h
  split at h
  · cases rx
    exact ⟨_, _, false, rfl, hcv, .inl ⟨rfl, T.non⟩, Post.val hR (.bl _) h⟩
  · rename_i C ns ds
    split at h
    · rename_i b e
      obtain ⟨k1, k2⟩ := T.exc _ (mem_lookup e)
      cases rx with
      | exc hw hl hv =>
        rcases hw with ⟨_, hw⟩ | ⟨_, dx, hw, hx⟩
        · exact ⟨_, _, b, rfl, hcv, .inr ⟨_, _, none, rfl, hR.ext _ _ hw, .inl rfl, k1, k2⟩, Post.val hR (.bl _) h⟩
        · exact ⟨_, _, b, rfl, hcv, .inr ⟨_, _, some dx, rfl, hR.ext _ _ hw, .inr ⟨dx, _, rfl, hR.ext _ _ hx⟩, k1, k2⟩, Post.val hR (.bl _) h⟩
    · exact h.elim
  · exact h.elim
variable {e e2 : Expr} {es : List Expr} {ma : M D} {p pos tpos : Pos} {kk : Nat}
theorem se_isX1 {cv : V} {u : Value} (T : KitT X.K c [u] tab) (hg : Gl X "isinstance") (hm : X.mg "isinstance" = none) (ha : PE X e (tE ⟨X.K, c, X.w⟩ EX ma)) (he2 : PE X e2 (tC cv)) (hu : ∀ w, RelV cv w → w = u)
    (he : starEach (e :: e2 :: []) X.env = (false, eval e X.env) :: starEach (e2 :: []) X.env := by rfl) (hs2 : starEach (e2 :: []) X.env = (false, eval e2 X.env) :: starEach [] X.env := by rfl) (hpl : (backTo pos (starEach (e2 :: []) X.env)).any (·.1) = false := by rfl) :
    PE X (.Call (.Name "isinstance" p) [e, e2] [] pos) (tE ⟨X.K, c, X.w⟩ EX (m1 (fIsX tab) ma)) :=
  PE.imp (pe_callB (call_isX (us := [u]) (one := true)) hg hm bt_isinstance (pa_cons ha (pa_cons he2 pa_nil hs2) he) (by decide) (by decide) he hpl) fun σ H Q h =>
    (tM.bind (rel := VR ⟨X.K, c, X.w⟩) (m := ma) (f := fun _ => fIsX tab) h).weak fun v H1 ⟨W, ρ, A, σd, x, hR, hE, rx, hP⟩ => isX_of T (.inl ⟨rfl, u, rfl, hu⟩) hR rx hP
end
section
variable {K : PySem.W.Frag} {C C2 : Addr} {b r : Bool} {us : List Value}
theorem ko_ref (T : IsC K C2) (h0 : PySem.W.subIn K (.ref C) (.ref C) = some true) (h : PySem.W.subIn K (.ref C) (.ref C2) = some b) : PySem.W.kitOne K (.ref C) (.ref C2) = some b := by
  unfold PySem.W.kitOne
  split
  · rename_i e
    have e2 : Value.ref C = Value.ref C2 := beq_iff_eq.mp e
    rw [← e2, h0] at h
    exact h
  · unfold PySem.W.kitCls
    simp only
    rw [T.cls, T.ty]
    simpa using h
theorem ko_non (T : IsC K C2) (h : PySem.W.subIn K (.type "NoneType") (.ref C2) = some b) : PySem.W.kitOne K (.type "NoneType") (.ref C2) = some b := by
  unfold PySem.W.kitOne
  rw [if_neg (by intro e; cases beq_iff_eq.mp e)]
  unfold PySem.W.kitCls
  simp only
  rw [T.cls, T.ty]
  simpa using h
theorem ko_ty {n : String} (hn : PySem.W.kitMeta n = true) (h : PySem.W.subIn K (.ref C) (.type n) = some b) : PySem.W.kitOne K (.ref C) (.type n) = some b := by
  unfold PySem.W.kitOne
  rw [if_neg (by intro e; cases beq_iff_eq.mp e)]
  unfold PySem.W.kitCls
  simp only
  rw [if_pos hn]
  exact h
theorem ka_nil {t : Value} : PySem.W.kitAny K t [] = some false := rfl
theorem ka_cons {t u : Value} (h : PySem.W.kitOne K t u = some b) (h2 : PySem.W.kitAny K t us = some r) : PySem.W.kitAny K t (u :: us) = some (b || r) := by
  unfold PySem.W.kitAny
  rw [h]
  cases b with
  | true => rfl
  | false => simpa using h2
end
section
variable {X : Cx} {x : Str} {C : Addr} {p : Pos}
theorem pe_clsN (hg : Gl X x) (hm : X.mg x = some (.ref C)) (hd : (x == ("__debug__" : Str)) = false := by decide) : PE X (.Name x p) (tC (.ref C)) := pe_glob hg hm rfl hd
theorem rel_ref {C : Addr} : ∀ w, RelV (.ref C) w → w = .ref C := fun _ h => h
theorem rel_ty {n : String} : ∀ w, RelV (.ty n) w → w = .type n := fun _ h => h
end
end Vi
end
section
namespace Vi
open PySem PySem.Spec L2
def pm {α : Type} (js : List Nat) (xs : List α) : List α := js.filterMap fun j => xs[j]?
@[simp] theorem pm_10 {α : Type} (a b : α) : pm [1, 0] [a, b] = [b, a] := rfl
@[simp] theorem pm_01 {α : Type} (a b : α) : pm [0, 1] [a, b] = [a, b] := rfl
@[simp] theorem pm_0 {α : Type} (a : α) : pm [0] [a] = [a] := rfl
@[simp] theorem pm_210 {α : Type} (a b c : α) : pm [2, 1, 0] [a, b, c] = [c, b, a] := rfl
def mCallK (m : List D → List O → R D) (js : List Nat) (mr : M (List D)) : M D := fun σ A => (mr σ A).bind fun xs A => m (pm js xs) A
end Vi
namespace Vi
open PySem PySem.Spec L2
theorem bt_ValueError : bootBuiltins "ValueError" = some (.type "ValueError") := by decide +kernel
theorem bt_KeyError : bootBuiltins "KeyError" = some (.type "KeyError") := by decide +kernel
theorem bt_LookupError : bootBuiltins "LookupError" = some (.type "LookupError") := by decide +kernel
end Vi
end
section
namespace Vi
open PySem PySem.Spec L2
open PyProof.Rows (AllBare)
structure InitC (K : PySem.W.Frag) (C0 : Addr) : Prop where
  sp : PySem.W.specialIn K (.ref C0) "__getattribute__" = some (some (.builtin "type.__getattribute__"))
  rd : PySem.W.readsIn K C0 (.type "type") = true
  vi : PySem.W.findCls K (.ref C0) (.type "type") "__init__" = some (.val (.builtin "ValueError.__init__"))
section
variable {X : Cx} {x : Str} {C0 : Addr} {e : Expr} {es : List Expr} {ta : TA} {p1 p2 pos : Pos}
theorem pe_clinit {pl : Sem Bool} (T : InitC X.K C0) (hg : Gl X x) (hm : X.mg x = some (.ref C0)) (ha : PA X (e :: es) ta)
    (hc : eval (.Call (.Attribute (.Name x p1) "__init__" p2) (e :: es) [] pos) X.env = (do
      let ov ← eval (.Name x p1) X.env
      standAt p2.atName
      let (f, first) ← holding [ov] (getMethod ov "__init__" pl)
      callWith pos f first (backTo pos (starEach (e :: es) X.env)) (backToKw pos (keywordEach [] X.env))) := by rfl)
    (hd : (x == ("__debug__" : Str)) = false := by decide) (he : starEach (e :: es) X.env = (false, eval e X.env) :: starEach es X.env := by rfl) (hpl : (backTo pos (starEach es X.env)).any (·.1) = false := by rfl) :
    PE X (.Call (.Attribute (.Name x p1) "__init__" p2) (e :: es) [] pos) (tVeI X.K ta) := by
  refine ⟨fun pins s σ H Q I h => PySem.W.methodCall_KW (ld_glob I hg hm ?_ hd) hc⟩
  refine PySem.W.method_cls I.kIn T.sp (PySem.W.cls_value I.kIn T.rd T.vi (by decide +kernel) ?_)
  show wpAny _ _ (callWith pos (Value.builtin "ValueError.__init__") [] (backTo pos (starEach (e :: es) X.env)) []) _ _ _
  refine PyProof.Rows.callWith_method1 (thn (ha.run pos pins _ σ H _ (I.tok _) h) fun us s1 ⟨vs, H1, I1, r1, a, C, ws, ev, hl, TC, ea, q⟩ => ?_) he hpl
  subst ev
  cases r1 with
  | @cons _ u0 _ ur ra rw' =>
    cases (show u0 = Value.ref a from ra)
    exact oinit_ok TC I1 ea (by rw [← Paired.length rw', sizeLine_eq]; omega) fun s' J => ⟨.non, H1, J, rfl, q⟩
end
structure XcC (K : PySem.W.Frag) (mg : Str → Option Value) (c : String → Addr) (x : Str) (C : String) (f : Addr) (ns : List Str) : Prop where
  ox : OexC K (c C)
  gl : mg x = some (.ref (c C))
  ic : PySem.W.findIn K (.ref (c C)) "__init__" = some (some (.ref f))
  ti : PySem.W.typeIn K (.ref f) = some (.type "function")
  no : ∀ n ∈ ns, PySem.W.findIn K (.ref (c C)) n = some none
def spI (C : Addr) (ns : List Str) : Sp := fun vs H Q E => ∃ (a : Addr) (ws : List V), vs = .ref a :: ws ∧ ws.length = ns.length ∧ ws.length ≤ 1000 ∧ H a = some (exo a C none) ∧
  ∀ (H2 : Hp) (dx : Addr), H dx = none → dx ≠ a → H2 a = some (exo a C (some dx)) → H2 dx = some (exd dx (ns.zip ws).reverse) → (∀ b, b ≠ a → b ≠ dx → H2 b = H b) → Q .non H2
section
variable {P : Program} {w : World} {K : PySem.W.Frag} {mg : Str → Option Value} {base : Heap} {CX : CXT} {c : String → Addr} {C : String} {f : Addr} {fd : FuncData} {st : Stmt} {qual x n1 n2 m : Str} {N ps : List Str} {k : Nat}
theorem init_run {ns : List Str} {t : TS} (F : FunX K "__init__" qual st f fd) (S : FnScope N ps (defScope st)) (hp : ps.length = ns.length + 1)
    (hb : ∀ (cdv : Value) (A : Around) (outer : List PySem.Env) (s : Shared) (H : Hp) (E : XK), PSs (cxOf CX P w K mg base N qual (defScope st) f cdv A outer s H E) (defBody st) t)
    (ht : ∀ (H : Hp) (vs : List V) (Q : VK) (E : XK), spI (c C) ns vs H Q E → t { nx := fun _ H' => Q .non H', rt := Q } (L2.start N vs) H) : FnOk P w K mg base CX (k + 1) f fd ps (spI (c C) ns) := by
  obtain ⟨oc, od, dV, kV, doc, pm, an, cdv, ct, osl, rfl, lk, hcd⟩ := F.ex
  exact fn_of lk hcd S (fun vs H Q E h => by
    obtain ⟨a, ws, rfl, hl, _⟩ := h
    rw [hp, List.length_cons, hl]) fun A outer s H vs Q E _ h => ⟨t, hb cdv A outer s H E, ht H vs Q E h⟩
theorem init1 (F : FunX K "__init__" qual st f fd) (T : XcC K mg c x C f [n1]) (S : FnScope ["self", n1] ["self", n1] (defScope st))
    (hb : ∀ (cdv : Value) (A : Around) (outer : List PySem.Env) (s : Shared) (H : Hp) (E : XK), PSs (cxOf CX P w K mg base ["self", n1] qual (defScope st) f cdv A outer s H E) (defBody st)
      (tSeq (tDrop (tVeI K (tCons (tVar 0) (tCons (tC (.str m)) tNil)))) (tOst K n1 (tVar 0) (tVar 1)))) : FnOk P w K mg base CX (k + 1) f fd ["self", n1] (spI (c C) [n1]) := by
  refine init_run F S rfl hb fun H vs Q E h => ?_
  obtain ⟨a, ws, rfl, hl, _, ea, hQ⟩ := h
  match ws, hl with
  | [v1], _ =>
  refine ⟨.ref a, rfl, a, c C, [.str m], rfl, (by show 1 ≤ 1000; decide), T.ox, ea, v1, rfl, .ref a, rfl, a, c C, rfl, T.ox, T.no _ List.mem_cons_self, .inl ⟨ea, fun dx hdx ne => ?_⟩⟩
  exact hQ _ dx hdx ne upd_same (by rw [upd_ne ne, upd_same]; rfl) fun b h1 h2 => by rw [upd_ne h1, upd_ne h2]
theorem init2 (F : FunX K "__init__" qual st f fd) (T : XcC K mg c x C f [n1, n2]) (S : FnScope ["self", n1, n2] ["self", n1, n2] (defScope st))
    (hb : ∀ (cdv : Value) (A : Around) (outer : List PySem.Env) (s : Shared) (H : Hp) (E : XK), PSs (cxOf CX P w K mg base ["self", n1, n2] qual (defScope st) f cdv A outer s H E) (defBody st)
      (tSeq (tDrop (tVeI K (tCons (tVar 0) (tCons (tC (.str m)) tNil)))) (tSeq (tOst K n1 (tVar 0) (tVar 1)) (tOst K n2 (tVar 0) (tVar 2))))) : FnOk P w K mg base CX (k + 1) f fd ["self", n1, n2] (spI (c C) [n1, n2]) := by
  refine init_run F S rfl hb fun H vs Q E h => ?_
  obtain ⟨a, ws, rfl, hl, _, ea, hQ⟩ := h
  match ws, hl with
  | [v1, v2], _ =>
  refine ⟨.ref a, rfl, a, c C, [.str m], rfl, (by show 1 ≤ 1000; decide), T.ox, ea, v1, rfl, .ref a, rfl, a, c C, rfl, T.ox, T.no _ List.mem_cons_self, .inl ⟨ea, fun dx hdx ne => ?_⟩⟩
  refine ⟨v2, rfl, .ref a, rfl, a, c C, rfl, T.ox, T.no _ (List.mem_cons_of_mem _ List.mem_cons_self), .inr ⟨dx, [(n1, v1)], upd_same, by rw [upd_ne ne, upd_same], (by show 1 ≤ 900; decide), ?_⟩⟩
  exact hQ _ dx hdx ne (by rw [upd_ne (Ne.symm ne), upd_same]) (by rw [upd_same]; rfl) fun b h1 h2 => by rw [upd_ne h2, upd_ne h1, upd_ne h2]
end
def sRaiseX (C : String) (ns : List Str) (mr : M (List D)) : SM := withE mr fun σ xs A => if xs.length = ns.length then .ok (.xc C (ns.zip xs).reverse σ) A else .no
def dFldX (f : Str) (x : D) (A : List O) : R D := match x with
  | .exc _ ns ds => match (ns.zip ds).lookup f with
    | some d => .ok d A
    | none => .no
  | _ => .no
theorem VRs.look {g : G} {W : Hp} {ρ : List Addr} {f : Str} {d : D} : ∀ {ns : List Str} {ds : List D} {vs : List V}, VRs g W ρ ds vs → (ns.zip ds).lookup f = some d → ∃ v, (ns.zip vs).lookup f = some v ∧ VR g W ρ d v
  | [], _, _, _, h => by simp at h
  | n :: ns, _, _, .nil, h => by simp at h
  | n :: ns, _, _, .cons (d := d0) (v := v0) r t, h => by
    rw [List.zip_cons_cons, List.lookup_cons] at h ⊢
    split at h
    · cases h
      exact ⟨v0, rfl, r⟩
    · exact VRs.look t h
section
variable {X : Cx} {c : String → Addr} {EX : WX} {e : Expr} {ma : M D} {pos : Pos} {n : Str} {L : List String}
def tXfT (K : PySem.W.Frag) (f : Str) (te : TE) : TE := fun σ H Q => te σ H fun x H1 => ∃ (a C dx : Addr) (fs : List (Str × V)) (v : V), x = .ref a ∧ H1 a = some (XcO (.ref C) (some dx) a) ∧ H1 dx = some (.xd fs) ∧ IsC K C ∧ PySem.W.findIn K (.ref C) f = some none ∧ fs.lookup f = some v ∧ Q v H1
theorem pe_xfT {te : TE} (he : PE X e te) (hb : attributeBase e n X.env (eval e X.env) = eval e X.env := by rfl) : PE X (.Attribute e n pos) (tXfT X.K n te) := by
  refine ⟨fun pins s σ H Q I h => attr_of hb (thn (he.run pins s σ H _ I h) fun u s1 hh => ?_)⟩
  obtain ⟨x, H1, I1, rx, a, C, dx, fs, v, rfl, ha, hx, T, hno, l, q⟩ := hh
  cases (show u = Value.ref a from rx)
  obtain ⟨⟨oe, vs, e1, ⟨z1, z2⟩, e3⟩, _⟩ := (show ObjOk X.prog X.w H1 s1.heap a (XcO (.ref C) (some dx) a) from I1.hok a _ ha)
  obtain ⟨mA, hns, hr⟩ := (show ObjOk X.prog X.w H1 s1.heap dx (.xd fs) from I1.hok dx _ hx)
  obtain ⟨od, ho, hl⟩ := lookIn_ns hns
  obtain ⟨u, hu, ru⟩ := RelO.some_of (v := v) (o := mA n) (by rw [← l]; exact hr n)
  have nc : PySem.W.notCls oe = true := by unfold PySem.W.notCls; rw [e3] <;> rfl
  have J : PySem.W.InstAt s1.heap a oe C (some od) := ⟨e1, z1, nc, by rw [z2]; exact ho⟩
  exact HandSPX.exc_get I1.kIn J T.hg T.hk T.hs (PySem.W.findObj_own T.hd hno rfl (by rw [hl, hu])) (handed_of ru) ⟨v, H1, I1.tok _, ru, q⟩
def dFldL (L : List String) (f : Str) (x : D) (A : List O) : R D := match x with
  | .exc C _ _ => if C ∈ L then dFldX f x A else .no
  | _ => .no
theorem se_xf (ha : PE X e (tE ⟨X.K, c, X.w⟩ EX ma)) (T : ∀ C ∈ L, IsC X.K (c C) ∧ PySem.W.findIn X.K (.ref (c C)) n = some none) (hb : attributeBase e n X.env (eval e X.env) = eval e X.env := by rfl) : PE X (.Attribute e n pos) (tE ⟨X.K, c, X.w⟩ EX (m1 (dFldL L n) ma)) :=
  PE.imp (pe_xfT ha hb) fun σ H Q h => (tM.bind (rel := VR ⟨X.K, c, X.w⟩) (m := ma) (f := fun _ => dFldL L n) h).weak fun v H1 ⟨W, ρ, A, σd, x, hR, hE, rx, hP⟩ => by
    unfold dFldL at hP
    split at hP
    · rename_i C ns ds
      split at hP
      · rename_i hC
        obtain ⟨t1, t2⟩ := T C hC
        unfold dFldX at hP
        simp only at hP
        split at hP
        · rename_i d el
          cases rx with
          | @exc _ _ _ a vs hw hl rv =>
            obtain ⟨v, l, r⟩ := rv.look el
            rcases hw with ⟨hn, _⟩ | ⟨_, dx, hw, hx⟩
            · subst hn; simp at el
            · exact ⟨a, _, dx, _, v, rfl, hR.ext _ _ hw, hR.ext _ _ hx, t1, t2, l, Post.val hR r hP⟩
        · exact hP.elim
      · exact hP.elim
    · exact hP.elim
end
end Vi
end
section
namespace Mb
open PySem PySem.Spec L2 Vi
noncomputable def b_answer_cases (r_answer_cases : List D → List O → R D) (r_answer : List D → List O → R D) : SM :=
  (sSeq (sFor (mSrc (m2 dIx (mVar 0) (mC (.int 1)))) (tgT 2 (tgsCons (tgN 2) (tgsCons (tgN 3) tgsNil)))
  (sIf (mTru (mCall r_answer [] (mArgs (mVar 2) (mArgs (mVar 1) mArgs0))))
  (sRet (mCall r_answer [] (mArgs (mVar 3) (mArgs (mVar 1) mArgs0))))
  sPass))
  (sRet (mCall r_answer [] (mArgs (m2 dIx (mVar 0) (mC (.int 2))) (mArgs (mVar 1) mArgs0)))))
noncomputable def b_answer (r_answer_cases : List D → List O → R D) (r_answer : List D → List O → R D) : SM :=
  (sSeq (sIf (mBl (m2 dEq (m2 dIx (mVar 0) (mC (.int 0))) (mC (.str "cases"))))
  (sRet (mCall r_answer_cases [] (mArgs (mVar 0) (mArgs (mVar 1) mArgs0))))
  sPass)
  (sSeq (sIf (mBl (m2 dEq (m2 dIx (mVar 0) (mC (.int 0))) (mC (.str "wish"))))
  (sRet (m2 dIx (mVar 1) (m2 dIx (mVar 0) (mC (.int 1)))))
  sPass)
  (sSeq (sIf (mBl (m2 dEq (m2 dIx (mVar 0) (mC (.int 0))) (mC (.str "not"))))
  (sRet (m1 dNot (mCall r_answer [] (mArgs (m2 dIx (mVar 0) (mC (.int 1))) (mArgs (mVar 1) mArgs0)))))
  sPass)
  (sSeq (sIf (mBl (m2 (dIn false) (m2 dIx (mVar 0) (mC (.int 0))) (mA fTup (mArgs (mC (.str "yes")) (mArgs (mC (.str "no")) mArgs0)))))
  (sRet (m2 dEq (m2 dIx (mVar 0) (mC (.int 0))) (mC (.str "yes"))))
  sPass)
  (sSeq (sSet 2 (mLc true (mSrc (m2 dIx (mVar 0) (mC (.int 1)))) (tgN 3) mYes (mCall r_answer [] (mArgs (mVar 3) (mArgs (mVar 1) mArgs0))) [3]))
  (sSeq (sIf (mBl (m2 dEq (m2 dIx (mVar 0) (mC (.int 0))) (mC (.str "and"))))
  (sRet (mA fAll (mArgs (mVar 2) mArgs0)))
  sPass)
  (sRet (mA fAny (mArgs (mVar 2) mArgs0)))))))))
noncomputable def mm_answer_cases : Nat → (List D → List O → R D) × (List D → List O → R D)
  | 0 => (fun _ _ => .no, fun _ _ => .no)
  | n + 1 => (runB 4 (b_answer_cases (mm_answer_cases n).1 (mm_answer_cases n).2), runB 4 (b_answer (mm_answer_cases n).1 (mm_answer_cases n).2))
noncomputable def m_answer_cases (n : Nat) : List D → List O → R D := (mm_answer_cases n).1
noncomputable def m_answer (n : Nat) : List D → List O → R D := (mm_answer_cases n).2
noncomputable def b_law_pool : SM :=
  (sSeq (sSet 2 (mC (.int 0)))
  (sSeq (sIf (mBl (m2 dNe (mVar 0) (mA (newL true) mArgs0)))
  (sSet 2 (m2 dIx (mVar 0) (m2 dMod (mVar 1) (mA fLen (mArgs (mVar 0) mArgs0)))))
  sPass)
  (sSeq (sIf (mBl (m2 dGe (mVar 1) (mA fLen (mArgs (mVar 0) mArgs0))))
  (sSet 2 (m2 dIx (mA (newL true) (mArgs (m2 dMod (mVar 2) (mC (.int 1000003))) (mArgs (m2 dFdiv (mVar 2) (m2 dPow (mC (.int 10)) (mC (.int 18)))) mArgs0))) (mA fInt (mArgs (m2 dGe (mVar 2) (m2 dPow (mC (.int 10)) (mC (.int 36)))) mArgs0))))
  sPass)
  (sSeq (sSet 3 (m2 dMod (m2 dMul (m2 (dAdd true) (m2 (dAdd true) (m2 dMod (mVar 2) (mC (.int 2147483629))) (m2 dMul (mC (.int 104729)) (mVar 1))) (mC (.int 11))) (mC (.int 48271))) (mC (.int 2147483647))))
  (sRet (mA (newL false) (mArgs (m2 dMul (mVar 2) (mA fInt (mArgs (m2 dGe (mVar 2) (m2 dPow (mC (.int 10)) (mC (.int 18)))) mArgs0))) (mArgs (mVar 3) mArgs0))))))))
noncomputable def m_law_pool : List D → List O → R D := runB 4 b_law_pool
noncomputable def b_law_take : SM :=
  (sSeq (sIf (mBl (m2 dGt (m2 dIx (mVar 0) (mC (.int 0))) (mC (.int 0))))
  (sSeq (sSet 2 (m2 dMod (m2 dIx (mVar 0) (mC (.int 0))) (mVar 1)))
  (sSeq (sAsg (m2 dFdiv (m2 dIx (mVar 0) (mC (.int 0))) (mVar 1)) (tgSub (mVar 0) (mC (.int 0))))
  (sRet (mVar 2))))
  sPass)
  (sSeq (sAsg (m2 dMod (m2 (dAdd true) (m2 dMul (m2 dIx (mVar 0) (mC (.int 1))) (mC (.int 48271))) (mC (.int 11))) (mC (.int 2147483647))) (tgSub (mVar 0) (mC (.int 1))))
  (sRet (m2 dMod (m2 dFdiv (m2 dMod (m2 dMul (m2 dIx (mVar 0) (mC (.int 1))) (m2 dIx (mVar 0) (mC (.int 1)))) (mC (.int 2147483629))) (mC (.int 64))) (mVar 1)))))
noncomputable def m_law_take : List D → List O → R D := runB 3 b_law_take
noncomputable def b_law_answer (r_law_answer : List D → List O → R D) : SM :=
  (sSeq (sIf (mBl (m2 dEq (m2 dIx (mVar 0) (mC (.int 0))) (mC (.str "wish"))))
  (sRet (m2 dIx (mVar 1) (m2 dIx (mVar 0) (mC (.int 1)))))
  sPass)
  (sSeq (sIf (mBl (m2 (dIn false) (m2 dIx (mVar 0) (mC (.int 0))) (mA (newL true) (mArgs (mC (.str "yes")) (mArgs (mC (.str "no")) mArgs0)))))
  (sRet (m2 dEq (m2 dIx (mVar 0) (mC (.int 0))) (mC (.str "yes"))))
  sPass)
  (sSeq (sIf (mBl (m2 dEq (m2 dIx (mVar 0) (mC (.int 0))) (mC (.str "not"))))
  (sRet (m1 dNot (mCall r_law_answer [] (mArgs (m2 dIx (mVar 0) (mC (.int 1))) (mArgs (mVar 1) mArgs0)))))
  sPass)
  (sSeq (sIf (mBl (m2 dEq (m2 dIx (mVar 0) (mC (.int 0))) (mC (.str "and"))))
  (sRet (m2 dEq (mLc true (mSrc (m2 dIx (mVar 0) (mC (.int 1)))) (tgN 4) (mNotT (mTru (mCall r_law_answer [] (mArgs (mVar 4) (mArgs (mVar 1) mArgs0))))) (mVar 4) [4]) (mA (newL true) mArgs0)))
  sPass)
  (sSeq (sIf (mBl (m2 dEq (m2 dIx (mVar 0) (mC (.int 0))) (mC (.str "or"))))
  (sRet (m2 dNe (mLc true (mSrc (m2 dIx (mVar 0) (mC (.int 1)))) (tgN 4) (mTru (mCall r_law_answer [] (mArgs (mVar 4) (mArgs (mVar 1) mArgs0)))) (mVar 4) [4]) (mA (newL true) mArgs0)))
  sPass)
  (sSeq (sFor (mSrc (m2 dIx (mVar 0) (mC (.int 1)))) (tgT 2 (tgsCons (tgN 2) (tgsCons (tgN 3) tgsNil)))
  (sIf (mTru (mCall r_law_answer [] (mArgs (mVar 2) (mArgs (mVar 1) mArgs0))))
  (sRet (mCall r_law_answer [] (mArgs (mVar 3) (mArgs (mVar 1) mArgs0))))
  sPass))
  (sRet (mCall r_law_answer [] (mArgs (m2 dIx (mVar 0) (mC (.int 2))) (mArgs (mVar 1) mArgs0))))))))))
noncomputable def m_law_answer : Nat → List D → List O → R D
  | 0 => fun _ _ => .no
  | n + 1 => runB 5 (b_law_answer (m_law_answer n))
end Mb
end
section
namespace Mb
open PySem PySem.Spec L2 Vi
theorem pys_ints (A : List O) (k : Nat) : ∀ ns : List Int, pys (py A k) (ns.map D.int) = some (ns.map PyData.int)
  | [] => rfl
  | n :: ns => by
    have e : py A k (.int n) = some (.int n) := by cases k <;> rfl
    rw [List.map_cons, pys, e, pys_ints A k ns]; rfl
theorem lay_ints : ∀ ns : List Int, PyData.canLayAll0 (ns.map PyData.int) = true
  | [] => rfl
  | n :: ns => by rw [List.map_cons, PyData.canLayAll0, lay_ints ns]; rfl
theorem depth_ints : ∀ ns : List Int, PyData.depthAll (ns.map PyData.int) = 0
  | [] => rfl
  | n :: ns => by rw [List.map_cons, PyData.depthAll, depth_ints ns]; rfl
theorem ne_scr {ns : List Int} {A : List O} : dNe (.scr (ns.map D.int)) (.lst []) A = .ok (.bl (!ns.isEmpty)) A := by
  have e : py A 64 (.scr (ns.map D.int)) = some (.list (ns.map PyData.int)) := by
    show (pys (py A 63) _).map _ = _
    rw [pys_ints]; rfl
  have e2 : py A 64 (.lst []) = some (.list []) := rfl
  have h : SeqAt.shaped (.list (ns.map PyData.int)) = true := by
    simp [SeqAt.shaped, PyData.canLay0, PyData.depth, lay_ints, depth_ints]
  show dNeD _ _ A = _
  unfold dNeD
  rw [e, e2]
  simp only [h]
  cases ns <;> rfl
def Pl (n : Nat) (A : List O) : Prop := ∃ a b : Int, A[n]? = some (.lst [.int a, .int b])
theorem Pl.lt {n : Nat} {A : List O} (h : Pl n A) : n < A.length := by
  obtain ⟨a, b, h⟩ := h
  exact (List.getElem?_eq_some_iff.mp h).1
theorem Pl.push {n : Nat} {A : List O} {o : O} (h : Pl n A) : Pl n (A ++ [o]) := by
  obtain ⟨a, b, e⟩ := h
  exact ⟨a, b, by rw [List.getElem?_append_left (Pl.lt ⟨a, b, e⟩)]; exact e⟩
theorem Pl.set {n i : Nat} {A : List O} {o : O} (h : Pl n A) (hi : i ≠ n) : Pl n (A.set i o) := by
  obtain ⟨a, b, e⟩ := h
  exact ⟨a, b, by rw [List.getElem?_set_ne hi]; exact e⟩
theorem take_ok {n : Nat} {A : List O} {m : Int} (h : Pl n A) (h0 : 0 < m) (h1 : m < 2 ^ 62) :
    ∃ (d : Nat) (A' : List O), (d : Int) < m ∧ m_law_take [.ref n, .int m] A = .ok (.int d) A' ∧ Pl n A' ∧ Grow n A A' ∧ A'.length = A.length := by
  obtain ⟨a, b, h⟩ := h
  have hn : n < A.length := (List.getElem?_eq_some_iff.mp h).1
  have h2 : m < 18446744073709551616 := by omega
  have key : ∀ (z : Int), 0 ≤ z % m ∧ z % m < m := fun z => ⟨Int.emod_nonneg _ (by omega), Int.emod_lt_of_pos _ h0⟩
  by_cases ha : 0 < a
  · refine ⟨(a % m).toNat, A.set n (.lst [.int (a / m), .int b]), by have := key a; omega, ?_, ⟨_, _, set_at h⟩, Grow.set, by simp⟩
    have e : ((a % m).toNat : Int) = a % m := Int.toNat_of_nonneg (key a).1
    rw [e]
    simp [m_law_take, b_law_take, h, atI, ixN, ha, h0, h2, setIx]
  · refine ⟨((((b * 48271 + 11) % 2147483647) * ((b * 48271 + 11) % 2147483647) % 2147483629 / 64 % m)).toNat, A.set n (.lst [.int a, .int ((b * 48271 + 11) % 2147483647)]), by have := key (((b * 48271 + 11) % 2147483647) * ((b * 48271 + 11) % 2147483647) % 2147483629 / 64); omega, ?_, ⟨_, _, set_at h⟩, Grow.set, by simp⟩
    rw [Int.toNat_of_nonneg (key _).1]
    have hc : -18446744073709551616 < (b * 48271 + 11) % 2147483647 ∧ (b * 48271 + 11) % 2147483647 < 18446744073709551616 := by omega
    simp [m_law_take, b_law_take, h, atI, ixN, ha, h0, h2, setIx, hc, set_at h]
theorem pool_ok {ns : List Int} {k : Int} {A : List O} (hk0 : 0 ≤ k) (hk : k < 100000) :
    ∃ a b : Int, m_law_pool [.scr (ns.map D.int), .int k] A = .ok (.ref A.length) (A ++ [.lst [.int a, .int b]]) := by
  have hk2 : -18446744073709551616 < (k : Int) ∧ (k : Int) < 18446744073709551616 := by omega
  have hi : ∀ p q : Int, ∀ b : Prop, ∀ _ : Decidable b, ∃ z, atI [D.int p, D.int q] (if b then 1 else 0) = some (.int z) := fun p q b _ => by
    by_cases h : b
    · exact ⟨q, by rw [if_pos h]; rfl⟩
    · exact ⟨p, by rw [if_neg h]; rfl⟩
  have hb1 : ∀ b : Prop, ∀ _ : Decidable b, -18446744073709551616 < (if b then (1 : Int) else 0) := fun b _ => by split <;> decide
  have hb2 : ∀ b : Prop, ∀ _ : Decidable b, (if b then (1 : Int) else 0) < 18446744073709551616 := fun b _ => by split <;> decide
  by_cases he : ns = []
  · subst he
    have := ne_scr (ns := []) (A := A)
    simp only [List.map_nil] at this
    simp [m_law_pool, b_law_pool, this, atI, ixN, hk0]
  · have hp : (0 : Int) < ns.length := by have := List.length_pos_iff.mpr he; omega
    have h1 : 0 ≤ k % (ns.length : Int) := Int.emod_nonneg _ (by omega)
    have h2 : k % (ns.length : Int) < ns.length := Int.emod_lt_of_pos _ hp
    have h3 : ∃ z, atI (ns.map D.int) (k % (ns.length : Int)) = some (.int z) := by
      rw [atI_i h1 (by simpa using h2), List.getElem?_map]
      have h4 : (k % (ns.length : Int)).toNat < ns.length := by omega
      rw [List.getElem?_eq_getElem h4]
      exact ⟨_, rfl⟩
    obtain ⟨z, h3⟩ := h3
    have h5 : ns.isEmpty = false := by cases ns <;> simp_all
    have h6 : 0 < ns.length := by omega
    by_cases hq : (ns.length : Int) ≤ k
    · obtain ⟨w, hw⟩ := hi (z % 1000003) (z / 1000000000000000000) (1000000000000000000000000000000000000 ≤ z) inferInstance
      simp [m_law_pool, b_law_pool, ne_scr, h6, h5, h3, hq, hw, hb1, hb2]
    · simp [m_law_pool, b_law_pool, ne_scr, h6, h5, h3, hq, hb1, hb2]
end Mb
end
section
namespace Vi
open PySem PySem.Spec L2
end Vi
end
section
namespace Vi
open PySem PySem.Spec L2
end Vi
end
section
namespace Vi
open PySem PySem.Spec L2
end Vi
end
section
namespace Vi
open PySem PySem.Spec L2
section
noncomputable local instance (priority := 10000) clse (p : Prop) : Decidable p := Classical.propDecidable p
end
end Vi
end
section
namespace Vi
open PySem PySem.Spec L2
end Vi
end
section
namespace Vi
open PySem PySem.Spec L2
def dRev (fz : Bool) (x : D) (A : List O) : R D := match lstOf x A with
  | some ds => newL fz ds.reverse A
  | none => .no
def mRev (fz : Bool) (ma : M D) : M D := fun σ A => (ma σ A).bind fun x A => dRev fz x A
@[simp ↓] theorem mRev_e {fz : Bool} {ma : M D} {σ : Env} {A : List O} : mRev fz ma σ A = (ma σ A).bind fun x A => dRev fz x A := rfl
end Vi
end
section
namespace Vi
open PySem PySem.Spec L2
def dctOf (x : D) (A : List O) : Option (List Key × List D) := match x with
  | .dk ks ds => some (ks, ds)
  | .ref n => match A[n]? with
    | some (.dct ks ds) => some (ks, ds)
    | _ => none
  | _ => none
@[simp] theorem dctOf_k {ks : List Key} {ds : List D} {A : List O} : dctOf (.dk ks ds) A = some (ks, ds) := rfl
end Vi
end
section
namespace Vi
open PySem PySem.Spec L2 PyProof.Rows
section
variable {P : Program} {w : World} {A : Around} {E : Value → Shared → Prop} {s : Shared}
abbrev newS (w : World) : Obj := { cls := .type "set", dict := none, data := .set #[] 0 (.fresh 0 0 (!w.params.followText "set-order")) }
end
section
variable {X : Cx} {c : String → Addr} {EX : WX} {e : Expr} {ma : M D} {p p2 q pos : Pos} {fz : Bool}
def rSetL (K : PySem.W.Frag) (w : World) : List V → Hp → VK → Prop := fun vs H Q => ∃ (l : Addr) (ns : List Int), vs = [V.ref l] ∧ SqL K H l (ns.map V.int) ∧ ns.length < 64 ∧ ∀ (p : Addr) (n : Nat), H p = none → n ≤ ns.length → Q (.ref p) (upd H p (SetO w p (fun j => decide (j ∈ ns)) n))
end
end Vi
end
section
namespace Vi
open PySem PySem.Spec L2
open PyProof.Rows (subscriptTail)
end Vi
end
section
namespace PySem.W
open PySem PyProof.Rows
end PySem.W
namespace Vi
open PySem PySem.Spec L2
end Vi
end
section
namespace Vi
open PySem PySem.Spec L2
end Vi
namespace Vi
open PySem PySem.Spec L2
end Vi
end
section
namespace Vi
open PySem PySem.Spec PyProof.Rows L2
end Vi
end
section
namespace Vi
open PySem PySem.Spec L2
end Vi
end
section
namespace Vi
open PySem PySem.Spec L2
end Vi
end
section
namespace Vi
open PySem PySem.Spec L2
end Vi
end
section
namespace Vi
open PySem PySem.Spec L2
end Vi
end
section
namespace Vi
open PySem PySem.Spec L2
end Vi
end
section
namespace Vi
open PySem PySem.Spec L2
end Vi
namespace Vi
open PySem PySem.Spec L2
end Vi
end
section
namespace Vi
open PySem PySem.Spec L2 PyProof.Rows
def maxL (d : Int) : List Int → Int
  | [] => d
  | x :: xs => xs.foldl max x
def fMaxD (d : Int) (xs : List D) (A : List O) : R D := match xs with
  | [x] => match (lstOf x A).bind intsOf with
    | some is => .ok (.int (maxL d is)) A
    | none => .no
  | _ => .no
def fSumS (d : Int) (xs : List D) (A : List O) : R D := match xs with
  | [x] => match (lstOf x A).bind intsOf with
    | some is => .ok (.int (d + is.sum)) A
    | none => .no
  | _ => .no
section
variable {X : Cx} {c : String → Addr} {EX : WX} {e : Expr} {es : List Expr} {mr : M (List D)}
@[simp] theorem fMaxD_l {d : Int} {is : List Int} {A : List O} : fMaxD d [.lst (is.map D.int)] A = .ok (.int (maxL d is)) A := by simp [fMaxD]
@[simp] theorem fSumS_l {d : Int} {is : List Int} {A : List O} : fSumS d [.lst (is.map D.int)] A = .ok (.int (d + is.sum)) A := by simp [fSumS]
end
end Vi
end
section
namespace Vi
open PySem PySem.Spec L2 PyProof.Rows
section
variable {X : Cx} {c : String → Addr} {EX : WX} {x : Str} {pos p : Pos}
def fMaxL (xs : List D) (A : List O) : R D := match xs with
  | [x] => match (lstOf x A).bind intsOf with
    | some (i :: is) => .ok (.int (is.foldl max i)) A
    | _ => .no
  | _ => .no
@[simp] theorem fMaxL_l {i : Int} {is : List Int} {A : List O} : fMaxL [.lst (D.int i :: is.map D.int)] A = .ok (.int (is.foldl max i)) A := by
  have e : intsOf (D.int i :: is.map D.int) = some (i :: is) := by simp [intsOf]
  simp [fMaxL, e]
end
def fMax3 (xs : List D) (A : List O) : R D := match xs with
  | [.int i, .int j, .int k] => .ok (.int (max (max i j) k)) A
  | _ => .no
@[simp] theorem fMax3_i {i j k : Int} {A : List O} : fMax3 [.int i, .int j, .int k] A = .ok (.int (max (max i j) k)) A := rfl
end Vi
end
section
namespace Vi
open PySem PySem.Spec L2 PyProof.Rows
def mDisp1 (mk mv : M D) : M D := fun σ A => (mk σ (A ++ [.dct [] []])).bind fun x A1 => (mv σ A1).bind fun y A2 => match keyK x, A2[A.length]? with
  | some k, some (.dct [] []) => .ok (.ref A.length) (A2.set A.length (.dct [k] [y]))
  | _, _ => .no
def mFz (m : M D) : M D := fun σ A => (m σ A).bind fun d A => .ok (frz1 d A).1 (frz1 d A).2
@[simp ↓] theorem mDisp1_e {mk mv : M D} {σ : Env} {A : List O} : mDisp1 mk mv σ A = (mk σ (A ++ [.dct [] []])).bind fun x A1 => (mv σ A1).bind fun y A2 => match keyK x, A2[A.length]? with
  | some k, some (.dct [] []) => .ok (.ref A.length) (A2.set A.length (.dct [k] [y]))
  | _, _ => .no := rfl
@[simp ↓] theorem mFz_e {m : M D} {σ : Env} {A : List O} : mFz m σ A = (m σ A).bind fun d A => .ok (frz1 d A).1 (frz1 d A).2 := rfl
end Vi
end
section
namespace Vi
open PySem PySem.Spec L2 PyProof.Rows
end Vi
end
section
namespace Vi
open PySem PySem.Spec L2
def frzW (d : D) (A : List O) : Option (D × List O) := match d with
  | .ref n => match A[n]? with
    | some (.dtb ks ds) => some (.dw ks ds, A.set n .dead)
    | _ => none
  | _ => none
def mFzW (m : M D) : M D := fun σ A => (m σ A).bind fun d A => match frzW d A with
  | some p => .ok p.1 p.2
  | none => .no
@[simp ↓] theorem mFzW_e {m : M D} {σ : Env} {A : List O} : mFzW m σ A = (m σ A).bind fun d A => match frzW d A with
  | some p => .ok p.1 p.2
  | none => .no := rfl
section
variable {X : Cx} {tg e : Expr} {td : TE} {c : String → Addr} {EX : WX} {ma : M D}
def srcW (x : D) (A : List O) : R Src := match x with
  | .dw ks _ => .ok (.fix (ks.map fun k => .tup (k.map D.bl))) A
  | _ => .no
def mSrcW (ma : M D) : M Src := fun σ A => (ma σ A).bind srcW
@[simp ↓] theorem mSrcW_e {ma : M D} {σ : Env} {A : List O} : mSrcW ma σ A = (ma σ A).bind srcW := rfl
@[simp] theorem srcW_w {ks : List (List Bool)} {ds : List D} {A : List O} : srcW (.dw ks ds) A = .ok (.fix (ks.map fun k => .tup (k.map D.bl))) A := rfl
end
def isDb (x : D) (A : List O) : Bool := match x with
  | .ref n => match A[n]? with
    | some (.dct _ _) => true
    | some (.dtb _ _) => true
    | _ => false
  | _ => false
def setdD (o i d : D) (A : List O) : R D := match o with
  | .ref n => match A[n]?, rowOf i with
    | some (.dct [] _), some k => .ok d (A.set n (.dtb [k] [d]))
    | some (.dtb ks ds), some k => if ks.length < sizeLine then (match kIx ks k with
      | some j => (match ds[j]? with
        | some e => .ok e A
        | none => .no)
      | none => .ok d (A.set n (.dtb (ks ++ [k]) (ds ++ [d])))) else .no
    | _, _ => .no
  | _ => .no
def mSetd (mo me mf : M D) : M D := fun σ A => (mo σ A).bind fun o A => if isDb o A = true then (me σ A).bind fun i A => (mf σ A).bind fun d A => setdD o i d A else .no
@[simp ↓] theorem mSetd_e {mo me mf : M D} {σ : Env} {A : List O} : mSetd mo me mf σ A = (mo σ A).bind fun o A => if isDb o A = true then (me σ A).bind fun i A => (mf σ A).bind fun d A => setdD o i d A else .no := rfl
end Vi
end
section
namespace Vi
open PySem PySem.Spec L2
open PyProof.Rows (subscriptTail)
mutual
def nkOf : D → Option NestedKey
  | .non => some .none
  | .bl b => some (.num (if b then 1 else 0))
  | .int i => some (.num i)
  | .str s => some (.text s)
  | .tup ds => (nksOf ds).map NestedKey.tup
  | _ => none
def nksOf : List D → Option (List NestedKey)
  | [] => some []
  | d :: ds => (nkOf d).bind fun k => (nksOf ds).map fun ks => k :: ks
end
def nkD (x : D) : Option NestedKey := match x with
  | .tup ds => (nkOf (.tup ds)).bind fun k => if k.depth ≤ 8 then some k else none
  | _ => none
def setIxN (o i d : D) (A : List O) : Option (List O) := match o with
  | .ref n => match A[n]? with
    | some (.dct [] _) => (nkD i).map fun k => A.set n (.dtn [k] [d])
    | some (.dtn ks ds) => if ks.length < sizeLine then ((nkD i).map fun k => match kIx ks k with
      | some j => A.set n (.dtn ks (ds.set j d))
      | none => A.set n (.dtn (ks ++ [k]) (ds ++ [d]))) else none
    | _ => none
  | _ => none
def tgSubN (mo mi : M D) : TgM := fun d σ A => (mo σ A).bind fun o A => (mi σ A).bind fun i A => match setIxN o i d A with
  | some A => .ok σ A
  | none => .no
@[simp ↓] theorem tgSubN_e {mo mi : M D} {d : D} {σ : Env} {A : List O} : tgSubN mo mi d σ A = (mo σ A).bind fun o A => (mi σ A).bind fun i A => match setIxN o i d A with
  | some A => .ok σ A
  | none => .no := rfl
end Vi
end
section
namespace Vi
open PySem PySem.Spec L2
end Vi
end
section
namespace VZip
open PySem PyProof.Rows
def On2 (a b : Addr) (P : Heap → Prop) : Prop := ∀ h h' : Heap, P h → (∀ o, h.get? a = some o → h'.get? a = some o) → (∀ o, h.get? b = some o → h'.get? b = some o) → P h'
section
variable {prog : Program} {w : World} {A : Around} {E : Value → Shared → Prop} {s : Shared} {z TI TO i1 i2 l1 l2 : Addr} {P1 P1' P2 P2' : Heap → Prop} {u v : Option Value} {x y a b : Value}
theorem On2.ext {it c d : Addr} {P : Heap → Prop} {h h' : Heap} (o : On2 c d P) (p : P h) (e : Heap.ExtBut it h h') (n1 : c ≠ it) (n2 : d ≠ it) : P h' := o h h' p (fun _ q => e c _ n1 q) fun _ q => e d _ n2 q
def TS (it l : Addr) (i : Nat) (xs : Array Value) (h : Heap) : Prop := h.IsTupleIter it l i ∧ h.IsTuple l xs
end
end VZip
namespace Vi
open PySem PySem.Spec L2 VZip
end Vi
end
section
namespace Vi
open PySem PySem.Spec L2
def srcL (x : D) (A : List O) : R Src := match x with
  | .ref n => match A[n]? with
    | some (.dctL ho ks ds) => .ok ⟨fun A' => A'[n]? = some (.dctL ho ks ds), ks.map kD⟩ A
    | _ => .no
  | _ => .no
def mSrcL (ma : M D) : M Src := fun σ A => (ma σ A).bind srcL
@[simp ↓] theorem mSrcL_e {ma : M D} {σ : Env} {A : List O} : mSrcL ma σ A = (ma σ A).bind srcL := rfl
end Vi
end
section
namespace Vi
open PySem PySem.Spec L2
open PyProof.Rows (Call_)
end Vi
end
section
namespace Vi
open PySem PySem.Spec L2 SeqAt
end Vi
end
section
namespace Vi
open PySem PySem.Spec L2
def fMinL (xs : List D) (A : List O) : R D := match xs with
  | [x] => match (lstOf x A).bind intsOf with
    | some (i :: is) => .ok (.int (is.foldl min i)) A
    | _ => .no
  | _ => .no
@[simp] theorem fMinL_l {i : Int} {is : List Int} {A : List O} : fMinL [.lst (D.int i :: is.map D.int)] A = .ok (.int (is.foldl min i)) A := by
  have e : intsOf (D.int i :: is.map D.int) = some (i :: is) := by simp [intsOf]
  simp [fMinL, e]
end Vi
end
section
namespace PySem.W
open PySem AutoSeq1 PyProof.Rows
end PySem.W
namespace Vi
open PySem PySem.Spec PyProof.Rows L2
end Vi
end
section
namespace Vi
open PySem PySem.Spec L2
theorem VRs.len {g : G} {W : Hp} {ρ : List Addr} : ∀ {ds : List D} {vs : List V}, VRs g W ρ ds vs → ds.length = vs.length
  | _, _, .nil => rfl
  | _, _, .cons _ r => by simp [VRs.len r]
end Vi
end
section
namespace Vi
open PySem PySem.Spec PyProof.Rows L2
end Vi
end
section
namespace Vi
open PySem PySem.Spec L2
def frzZ (d : D) (A : List O) : Option (D × List O) := match d with
  | .ref n => match A[n]? with
    | some (.dct ks ds) => some (.dz ks ds, A.set n .dead)
    | _ => none
  | _ => none
def mFzZ (m : M D) : M D := fun σ A => (m σ A).bind fun d A => match frzZ d A with
  | some p => .ok p.1 p.2
  | none => .no
@[simp ↓] theorem mFzZ_e {m : M D} {σ : Env} {A : List O} : mFzZ m σ A = (m σ A).bind fun d A => match frzZ d A with
  | some p => .ok p.1 p.2
  | none => .no := rfl
end Vi
end
section
namespace Vi
open PySem PySem.Spec L2
def mAlt {α : Type} (m1 m2 : M α) : M α := fun σ A => match m1 σ A with
  | .no => m2 σ A
  | r => r
@[simp ↓] theorem mAlt_e {α : Type} {m1 m2 : M α} {σ : Env} {A : List O} : mAlt m1 m2 σ A = match m1 σ A with
  | .no => m2 σ A
  | r => r := rfl
end Vi
end
section
namespace Vi
open PySem PySem.Spec L2
end Vi
end
section
namespace Vi
open PySem PySem.Spec L2 PyProof.Rows
end Vi
end
section
namespace PySem.SeqAt
open AutoSeq1 (wpAny_loadPart')
open MeetsSeq MeetsSeq2 MeetsSeq3 SeqRoads2
end PySem.SeqAt
namespace PySem.W
open PySem PySem.Calls PyProof.Rows PyProof.V PySem.Spec
end PySem.W
namespace Vi
open PySem PySem.Spec L2 PyProof.Rows
open PySem.W (EqTree)
section
variable {g : G} {W : Hp} {ρ : List Addr} {A : List O} {H : Hp} {X : Cx} {pins : List (Addr × Obj)} {σ : L2.St} {s : Shared}
def Trs (X : Cx) (s : Shared) (n : Nat) (vs us : List Value) : Prop := Paired (fun v u => EqTree X.prog X.w s n v u true) vs us
theorem Trs.at {n : Nat} : ∀ {vs us : List Value}, Trs X s n vs us → vs.length = us.length ∧ ∀ j (h1 : j < vs.length) (h2 : j < us.length), EqTree X.prog X.w s n vs[j] us[j] true
  | _, _, .nil => ⟨rfl, fun j h1 _ => absurd h1 (Nat.not_lt_zero j)⟩
  | _, _, .cons h t => by
    obtain ⟨a, b⟩ := Trs.at t
    refine ⟨by simp [a], fun j h1 h2 => ?_⟩
    cases j with
    | zero => exact h
    | succ j => exact b j (Nat.lt_of_succ_lt_succ h1) (Nat.lt_of_succ_lt_succ h2)
end
end Vi
end
section
namespace Vi
open PySem PySem.Spec L2 PyProof.Rows
end Vi
namespace Vi
open PySem
end Vi
end
section
namespace Vi
open PySem PySem.Spec L2 PyProof.Rows SeqAt
end Vi
namespace Vi
open PySem PySem.Spec L2 PyProof.Rows SeqAt
end Vi
namespace Vi
open PySem PySem.Spec L2 PyProof.Rows SeqAt
end Vi
end
section
namespace Vi
open PySem PySem.Spec L2 PyProof.Rows
end Vi
end
section
namespace Vi
open PySem PySem.Spec L2
open PyProof.Rows (AllBare)
section
variable {X : Cx} {e : Expr} {t : L2.St → Hp → XK → Prop}
theorem pe_mk (he : PMk X e t) : PE X e (fun σ H Q => t σ H fun cls d H' => ∀ a, H' a = none → Q (.ref a) (upd H' a (XcO cls d a))) := by
  refine ⟨fun pins s σ H Q I h => wpAny_mono (he pins s σ H _ I h) (fun u s1 hu => ?_) fun _ _ z => z⟩
  obtain ⟨a, oe, vs, sI, H', cls, d, rfl, J, k, hne, ha, hz, hd, h1, na, os, ag, r, q⟩ := hu
  have nS : a ∉ frs X.stack := fun hm => by
    obtain ⟨_, o', e', _⟩ := J.stack.mem hm
    rw [hne] at e'
    cases e'
  have J2 : Inv X pins σ (upd H' a (XcO cls d a)) s1 := landT (B := sI.heap) J (fun b u e _ => e) (fun b u e => k b u e) (fun b u e _ => ⟨_, k b u e⟩) os ag na hne nS
    ⟨⟨oe, vs, ha, hz, hd⟩, ⟨oe, ha⟩, fun _ _ ⟨u, v, e, r⟩ k => ⟨u, v, k u e, r⟩⟩
  exact ⟨.ref a, _, J2, rfl, q a na⟩
end
def mMkT (C : String) : M D := fun _ A => .ok (.exc C [] []) A
@[simp ↓] theorem mMkT_e {C : String} {σ : Env} {A : List O} : mMkT C σ A = .ok (.exc C [] []) A := rfl
structure RzL (K : PySem.W.Frag) (mg : Str → Option Value) (c : String → Addr) (x : Str) (C : String) : Prop where
  ex : PySem.W.excIn K (c C) [.type "LookupError", .type "Exception", .type "BaseException", .type "object"] "LookupError.__new__" = true
  gl : mg x = some (.ref (c C))
  kp : PySem.W.keepIn K (.ref (c C)) = true
  sb : PySem.W.subIn K (.ref (c C)) (.type "BaseException") = some true
  ty : PySem.W.typeIn K (.ref (c C)) = some (.type "type")
section
variable {X : Cx} {c : String → Addr} {EX : WX} {x m : Str} {C : String} {j : Nat} {p p2 pos pos' : Pos}
theorem mkT_of {σ : L2.St} {H : Hp} {Q : VK} (h : tE ⟨X.K, c, X.w⟩ EX (mMkT C) σ H Q) : ∀ a, H a = none → Q (.ref a) (upd H a (XcO (.ref (c C)) none a)) := fun a na => by
  obtain ⟨W, ρ, A, σd, hR, hE, hP⟩ := h
  obtain ⟨e2, R2⟩ := hR.newW (ho := XcO (.ref (c C)) none a) na
  have hv : VR ⟨X.K, c, X.w⟩ (upd W a (XcO (.ref (c C)) none a)) ρ (.exc C [] []) (.ref a) := .exc (vs := []) (.inl ⟨rfl, upd_same⟩) rfl .nil
  exact Post.val R2 hv (hP.mono e2)
theorem se_mkT (T : RzX X.K X.mg c x C) (hg : Gl X x) (hdb : (x == ("__debug__" : Str)) = false := by decide) :
    PE X (.Call (.Name x p) [.Constant (.str m) j p2] [] pos) (tE ⟨X.K, c, X.w⟩ EX (mMkT C)) :=
  PE.imp (pe_mk (pmk_own PySem.F.excBase_ValueError T.ex T.gl T.kp (raises_own T.sb T.ty) hg hdb)) fun σ H Q h => mkT_of h
theorem se_mkL (T : RzL X.K X.mg c x C) (hg : Gl X x) (hdb : (x == ("__debug__" : Str)) = false := by decide) :
    PE X (.Call (.Name x p) [.Constant (.str m) j p2] [] pos) (tE ⟨X.K, c, X.w⟩ EX (mMkT C)) :=
  PE.imp (pe_mk (pmk_own PySem.F.excBase_LookupError T.ex T.gl T.kp (raises_own T.sb T.ty) hg hdb)) fun σ H Q h => mkT_of h
end
def mMkX (C : String) (ns : List Str) (mr : M (List D)) : M D := fun σ A => (mr σ A).bind fun xs A => if xs.length = ns.length then .ok (.exc C ns.reverse xs.reverse) A else .no
@[simp ↓] theorem mMkX_e {C : String} {ns : List Str} {mr : M (List D)} {σ : Env} {A : List O} : mMkX C ns mr σ A = (mr σ A).bind fun xs A => if xs.length = ns.length then .ok (.exc C ns.reverse xs.reverse) A else .no := rfl
section
variable {X : Cx} {c : String → Addr} {EX : WX} {x : Str} {C : String} {f : Addr} {fd : FuncData} {ps ns : List Str} {k : Nat} {e : Expr} {es : List Expr} {mr : M (List D)} {p pos pos' : Pos} {ds : List Value}
theorem mkX_of (hne : ns ≠ []) (hns : ns.length ≤ 1000) {σ : L2.St} {H : Hp} {Q : VK} (h : tE ⟨X.K, c, X.w⟩ EX (mMkX C ns mr) σ H Q) :
    tMkO (c C) (spI (c C) ns) [] (tA ⟨X.K, c, X.w⟩ EX mr) σ H (fun cls d H' => ∀ a, H' a = none → Q (.ref a) (upd H' a (XcO cls d a))) :=
  (tM.bind (rel := VRs ⟨X.K, c, X.w⟩) (m := mr) (f := fun _ xs A => if xs.length = ns.length then .ok (D.exc C ns.reverse xs.reverse) A else .no) h).weak fun vs H1 ⟨W, ρ, A, σd, xs, hR, hE, rv, hP⟩ => by
    split at hP
    · rename_i hl
      have hlv : vs.length = ns.length := by rw [← rv.length]; exact hl
      refine ⟨by omega, fun a ha => ⟨a, vs, by rw [List.append_nil], hlv, by omega, upd_same, fun H2 dx hdx ne e1 e2 e3 => ⟨rfl, dx, _, e1, e2, ?_, ?_⟩⟩⟩
      · rw [upd_ne ne] at hdx; exact hdx
      · rw [upd_ne ne] at hdx
        have eH : upd (del H2 a) dx (.xd (ns.zip vs).reverse) = upd H1 dx (.xd (ns.zip vs).reverse) := by
          funext b
          by_cases hbd : b = dx
          · subst hbd; rw [upd_same, upd_same]
          · rw [upd_ne hbd, upd_ne hbd]
            by_cases hba : b = a
            · subst hba; rw [del_same, ha]
            · rw [del_ne hba, e3 b hba hbd, upd_ne hba]
        rw [eH]
        intro a' na'
        obtain ⟨x1, R1⟩ := hR.newW (ho := .xd (ns.zip vs).reverse) hdx
        obtain ⟨x2, R2⟩ := R1.newW (ho := XcO (.ref (c C)) (some dx) a') na'
        have nda : dx ≠ a' := fun z => by
          rw [← z, upd_same] at na'
          cases na'
        have hz : ∀ {α β : Type} {l : List α} {r : List β}, l.length = r.length → (l.zip r).reverse = l.reverse.zip r.reverse := fun {α β l r} h => by
          rw [List.zip_eq_zipWith, List.zip_eq_zipWith, List.reverse_zipWith h]
        have hv : VR ⟨X.K, c, X.w⟩ (upd (upd W dx (.xd (ns.zip vs).reverse)) a' (XcO (.ref (c C)) (some dx) a')) ρ (.exc C ns.reverse xs.reverse) (.ref a') := by
          refine .exc (vs := vs.reverse) (.inr ⟨by simpa using hne, dx, upd_same, ?_⟩) (by simp [hl]) ?_
          · rw [upd_ne nda, upd_same, hz hlv.symm]
          · exact (rv.reverse).mono (x1.trans x2).ex
        exact Post.val R2 hv (hP.mono (x1.trans x2))
    · exact hP.elim
theorem se_mkX (T : XcC X.K X.mg c x C f ns) (F : FnOk X.prog X.w X.K X.mg X.base (L2.CX X.prog X.w) k f fd ps (spI (c C) ns)) (hr : RoomG (k + 1) X.A) (hb : Binds X.K fd ps []) (hne : ns ≠ []) (hns : ns.length ≤ 1000) (hg : Gl X x)
    (ha : PA X (e :: es) (tA ⟨X.K, c, X.w⟩ EX mr)) (hdb : (x == ("__debug__" : Str)) = false := by decide) (he : starEach (e :: es) X.env = (false, eval e X.env) :: starEach es X.env := by rfl) (hpl : (backTo pos (starEach es X.env)).any (·.1) = false := by rfl) :
    PE X (.Call (.Name x p) (e :: es) [] pos) (tE ⟨X.K, c, X.w⟩ EX (mMkX C ns mr)) :=
  PE.imp (pe_mk (pmk_oex T.ox T.ic T.ti F hr.room hb .nil (fun pins σ H s e s' I h => by
    obtain ⟨_, _, _, _, _, _, _, _, _, _, _, _, z⟩ := h
    exact z.elim) hg T.gl ha hdb he hpl)) fun σ H Q h => mkX_of hne hns h
end
end Vi
end
section
namespace Vi
open PySem PySem.Spec L2
abbrev keMro : List Value := [.type "KeyError", .type "LookupError", .type "Exception", .type "BaseException", .type "object"]
theorem ke_entry : entryFor table "KeyError.__init__" = some Builtin.«BaseException.__init__» := entryFor_alias (id' := "BaseException.__init__") (by rw [fastTable_eq_tree]; kernel_rfl) (by first | rfl | decide +kernel) (by decide +kernel) (by rw [fastTable_eq_tree]; kernel_rfl)
theorem ke_plain : plainId "KeyError.__init__" = true := by decide +kernel
theorem ke_split : splitId "KeyError.__init__" = some ("KeyError", "__init__") := by kernel_rfl
theorem ke_kind : builtinKind "KeyError.__init__" = some .slot := by kernel_rfl
theorem ke_row : Manifest.signature? "KeyError.__init__" = some ⟨.positional, "*", "KeyError", .self, [⟨"args", .varPos, false⟩]⟩ := by kernel_rfl
theorem ke_has (C : Addr) : (Value.ref C :: keMro).contains (.type "KeyError") = true ∧ (Value.ref C :: keMro).contains (.type "LookupError") = true ∧ (Value.ref C :: keMro).contains (.type "AttributeError") = false ∧ (Value.ref C :: keMro).contains (.type "NameError") = false ∧ (Value.ref C :: keMro).contains (.type "object") = true ∧ (Value.ref C :: keMro).contains (.ref C) = true := by
  refine ⟨?_, ?_, ?_, ?_, ?_, ?_⟩ <;> simp only [List.contains_cons] <;> first | rfl | simp
section
variable {M : Model} {prog : Program} {w : World} {A : Around} {E : Value → Shared → Prop} {R : Result → Shared → Prop} {h : Heap} {g : Array GenState} {d : Drawn} {t : Nat} {os : OsState}
variable {nm q : Str} {C N : Addr} {bs : List Value} {hdct : Bool} {sn : List Str} {sub : List Value} {ab : Bool} {col : Option Bool} {dd : Option Addr} {k0 k1 k2 k3 k5 : Option Value} {rest : List Value}
abbrev keObj (nm q : Str) (C N : Addr) (bs : List Value) (hdct : Bool) (sn : List Str) (sub : List Value) (ab : Bool) (col : Option Bool) (dd : Option Addr) (k0 k1 k2 k3 k5 : Option Value) : Obj := excClassObj nm q C N bs keMro hdct sn sub ab col dd k0 k1 k2 k3 k5 "LookupError.__new__"
theorem ke_newcheck {Q : Unit → Shared → Prop} (hC : h.get? C = some (keObj nm q C N bs hdct sn sub ab col dd k0 k1 k2 k3 k5)) (hq : Q () ⟨h, g, d, t, os⟩) : wpAny M A (checkBuiltinCall "LookupError.__new__" ⟨.ref C :: rest, []⟩) Q E ⟨h, g, d, t, os⟩ := by
  have L := PySem.F.excBase_LookupError
  have st := L.noStar
  have c1 := (ke_has C).2.1
  simp only [checkBuiltinCall, L.newKind, L.newSplit, L.newRow]
  repeat (first | refine wpAny_loadPart_at hC ?_ | (refine wpAny_isSubtype_exc hC ?_; rw [c1]) | refine wpAny_staticBase_exc hC ?_ | refine wpAny_madeBy_exc hC ?_ | simp only [bne_self_eq_false, Bool.false_eq_true, if_false] | wp_step)
  exact hq
theorem ke_initcheck {e : Addr} {oe : Obj} {Q : Unit → Shared → Prop} (hC : h.get? C = some (keObj nm q C N bs hdct sn sub ab col dd k0 k1 k2 k3 k5)) (he : h.get? e = some oe) (hc : oe.cls = .ref C) (hq : Q () ⟨h, g, d, t, os⟩) :
    wpAny M A (checkBuiltinCall "KeyError.__init__" ⟨.ref e :: rest, []⟩) Q E ⟨h, g, d, t, os⟩ := by
  have c1 := (ke_has C).1
  have ns : ("KeyError" != "*") = true := by decide
  simp only [checkBuiltinCall, ke_kind, ke_split, ke_row]
  repeat (first | (with_reducible refine wpAny_loadPart_at he ?_; rw [hc]) | with_reducible refine wpAny_loadPart_at hC ?_ | (with_reducible refine wpAny_isSubtype_exc hC ?_; rw [c1]) | wp_step)
  refine wpAny_onRaise ?_
  have : ∀ (a b : String) (n : Nat), Bind.check ⟨.positional, "*", "KeyError", .self, [⟨"args", .varPos, false⟩]⟩ a b n (List.map (fun x => x.fst) ({ pos := Value.ref e :: rest } : Args).kw) = pure () := fun a b n => check_star_args _ _ _ _ _ _
  rw [this]
  exact wpAny_pure hq
theorem ke_new (hC : h.get? C = some (keObj nm q C N bs hdct sn sub ab col dd k0 k1 k2 k3 k5)) (hl : rest.length ≤ sizeLine)
    (hq : R (.ok (.ret (.ref (h.objs.size + 1)))) ⟨(h.push (PySem.W.kdv_tup rest)).push (PySem.HandSPX.excO C h.objs.size), g, d, t, os⟩) : codeAny (model prog w) A (.builtin "LookupError.__new__" ⟨.ref C :: rest, []⟩) R ⟨h, g, d, t, os⟩ := by
  have L := PySem.F.excBase_LookupError
  have ends := L.ends
  obtain ⟨_, c1, c2, c3, _, _⟩ := ke_has C
  refine codeAny_builtinAt L.entry ?_
  unfold Builtin.«BaseException.__new__»
  refine wpAt_bind ?_
  show wpAt _ _ _ (stack >>= _) _ _ _
  refine wpAt_bind (wpAt_stack fun p below => wpAt_of_wpAny ?_)
  wp_walk
  refine wpAt_of_wpAny ?_
  rw [L.owner]
  repeat (first | with_reducible refine wpAny_madeHere_exc L.canon hC ?_ | with_reducible refine wpAny_loadPart_at hC ?_ | (with_reducible refine wpAny_isSubtype_exc hC ?_; first | rw [c1] | rw [c2] | rw [c3]) | wp_step)
  show R _ _
  rw [Heap.size_push]
  exact hq
theorem ke_init {e t0 : Addr} (hC : h.get? C = some (keObj nm q C N bs hdct sn sub ab col dd k0 k1 k2 k3 k5)) (he : h.get? e = some (PySem.HandSPX.excO C t0)) (hl : rest.length ≤ sizeLine)
    (hq : ∀ h' t1, (∀ b o, b ≠ e → h.get? b = some o → h'.get? b = some o) → h'.get? e = some (PySem.HandSPX.excO C t1) → R (.ok (.ret .none)) ⟨h', g, d, t, os⟩) : codeAny (model prog w) A (.call (.builtin "KeyError.__init__") ⟨.ref e :: rest, []⟩) R ⟨h, g, d, t, os⟩ := by
  refine codeAny_call_builtin ke_plain ke_entry (ke_initcheck hC he rfl ?_)
  wp_walk
  refine hq _ h.objs.size (fun b o hb ho => ?_) ?_
  · rw [Heap.get?_update_other _ _ (Ne.symm hb)]
    exact Heap.get?_push_of_some _ ho
  · rw [Heap.get?_update_self _ (Heap.get?_push_of_some _ he) rfl]
    rfl
theorem ke_made {fI : Addr} {Q : Fin → Shared → Prop} (hC : h.get? C = some (keObj nm q C N bs hdct sn sub ab col dd k0 k1 k2 k3 k5)) (hi : PySem.W.Looks (model prog w) h (typeLookup (.ref C) "__init__") (some (.ref fI)))
    (hb : ∀ self, PySem.W.Looks (model prog w) h (bindSpecial (.ref fI) self) (.ref fI, [self])) (hl : rest.length ≤ sizeLine)
    (hq : codeAny (model prog w) A (.call (.ref fI) ⟨.ref (h.objs.size + 1) :: rest, []⟩) (fun r s' => match r with | .ok (.ret v) => v = .none ∧ Q (.done (.ret (.ref (h.objs.size + 1)))) s' | .ok _ => False | .error e => E e s')
      ⟨(h.push (PySem.W.kdv_tup rest)).push (PySem.HandSPX.excO C h.objs.size), g, d, t, os⟩) : wpAny (model prog w) A (Builtin.«type.__call__» ⟨.ref C :: rest, []⟩) Q E ⟨h, g, d, t, os⟩ := by
  repeat (first | with_reducible refine wpAny_loadPart_at hC ?_ | with_reducible refine wpAny_madeBy_exc hC ?_ | wp_step)
  refine codeAny_call_builtin_code (Code.quiet_builtin _ PySem.F.excBase_LookupError.quiet) (ke_newcheck hC (ke_new hC hl ?_))
  show wpAny _ _ _ _ _ _
  have up : ∀ b o, h.get? b = some o → ((h.push (PySem.W.kdv_tup rest)).push (PySem.HandSPX.excO C h.objs.size)).get? b = some o := fun b o e => Heap.get?_push_of_some _ (Heap.get?_push_of_some _ e)
  have hC1 := up _ _ hC
  have new : ((h.push (PySem.W.kdv_tup rest)).push (PySem.HandSPX.excO C h.objs.size)).get? (h.objs.size + 1) = some (PySem.HandSPX.excO C h.objs.size) := by heap_get
  have c1 := (ke_has C).2.2.2.2.2
  unfold isInstance
  repeat (first | with_reducible refine wpAny_loadPart_at new ?_ | (with_reducible refine wpAny_isSubtype_exc hC1 ?_; rw [c1]) | wp_step)
  show wpAny _ _ (typeLookup (.ref C) _) _ _ _
  refine (hi.keeps up).at (wpAny_holding (wpAny_bind (((hb (.ref (h.objs.size + 1))).keeps up).at ?_)))
  refine wpAny_bind (wpAny_call (codeAny_mono hq fun r s' z => ?_))
  match r, z with
  | .ok (.ret v), ⟨ev, z⟩ =>
    subst ev
    first | exact wpAny_pure (wpAny_pure z) | (wp_walk; exact z)
  | .error e, z => exact z
theorem ke_call {fI : Addr} (hC : h.get? C = some (keObj nm q C N bs hdct sn sub ab col dd k0 k1 k2 k3 k5)) (hi : PySem.W.Looks (model prog w) h (typeLookup (.ref C) "__init__") (some (.ref fI)))
    (hb : ∀ self, PySem.W.Looks (model prog w) h (bindSpecial (.ref fI) self) (.ref fI, [self])) (hl : rest.length ≤ sizeLine)
    (hq : codeAny (model prog w) (A.under (.builtin "type.__call__" ⟨.ref C :: rest, []⟩)) (.call (.ref fI) ⟨.ref (h.objs.size + 1) :: rest, []⟩) (PySem.W.InitBack (h.objs.size + 1) R) ⟨(h.push (PySem.W.kdv_tup rest)).push (PySem.HandSPX.excO C h.objs.size), g, d, t, os⟩) :
    codeAny (model prog w) A (.call (.ref C) ⟨rest, []⟩) R ⟨h, g, d, t, os⟩ := by
  have f1 := PySem.tc_lookup
  have f2 := PySem.tc_bind (.ref C)
  have ht : (⟨h, g, d, t, os⟩ : Shared).TypeIs (.ref C) "type" := ⟨_, hC, rfl⟩
  refine codeAny_of_tree (show wpAny _ _ (callAny (.ref C) _) _ _ _ from ?_)
  repeat (any_goals (first | assumption | with_reducible refine wpAny_loadPart_at hC ?_ | wp_step))
  refine ⟨rfl, codeAny_call_builtin_at (Code.quiet_builtin _ (by decide +kernel)) entry_typeCall (wpAny_check_type_call_sub hC (ke_made hC hi hb hl (codeAny_mono hq fun r s' z => ?_)))⟩
  match r, z with
  | .ok (.ret v), z => exact z
  | .error e, z => exact z
end
end Vi
end
section
namespace Vi
open PySem PySem.Spec L2
theorem ke_refuse (self : Value) (C : Addr) : refuseLoop self "__setattr__" (.ref C :: keMro) = pure () := by
  rw [refuseLoop_ref]
  kernel_rfl
section
open Builtin Builtin.ObjectAttr
variable {prog : Program} {w : World} {R : Result → Shared → Prop} {A : Around} {hp : Heap} {g : Array GenState} {d : Drawn} {t : Nat} {os : OsState}
theorem ke_store {K : PySem.W.Frag} {f : Str} {tk : Tok} {v : Value} {x C : Addr} {fv : Array Value} {cd : ClassData} (X : K.In hp) (hx : hp.get? x = some { cls := .ref C, data := .fields fv }) (hcd : PySem.W.clsIn K C = some cd) (hm : cd.mro = .ref C :: keMro) (hh : cd.hasDict = true) (ha : PySem.W.findIn K (.ref C) f = some none)
    (hq : ∀ h' tk' dx, (∀ b o, b ≠ x → hp.get? b = some o → h'.get? b = some o) → hp.objs.size ≤ dx → dx ≠ x → h'.get? x = some { cls := .ref C, dict := some dx, data := .fields fv } → h'.Ns1 dx (fun y => if y = f then some v else none) → R (.ok (.ret .none)) ⟨h', g, d, tk', os⟩) :
    codeAny (model prog w) A (.call (.builtin "object.__setattr__") ⟨[.ref x, .str f tk, v], []⟩) R ⟨hp, g, d, t, os⟩ := by
  have I : PySem.W.InstAt hp x { cls := .ref C, data := .fields fv } C none := ⟨hx, rfl, rfl, trivial⟩
  have SF := F.store_object
  have nx : x ≠ hp.objs.size := Nat.ne_of_lt (Heap.lt_size hx)
  have is : PySem.W.Looks (model prog w) hp (isInstance (.ref x) (.type "object")) true := I.type.andThen (PySem.W.looks_mroIn X (by
    unfold PySem.W.mroIn
    rw [hcd, Option.bind_some, hm, if_neg (by simp), (ke_has C).2.2.2.2.1]))
  have lm : PySem.W.Looks (model prog w) hp (mroOf (.ref C)) cd.mro := (PySem.W.looks_clsIn X hcd).andThen .now
  have lc : PySem.W.Looks (model prog w) hp (classData C) cd := PySem.W.looks_clsIn X hcd
  have ls : PySem.W.Looks (model prog w) hp (storeTaker? none) none := .now
  refine codeAny_call_builtin SF.slot.plain SF.entry (@PySem.W.check_slot (model prog w) _ _ ⟨hp, g, d, t, os⟩ "object.__setattr__" "object" "__setattr__" (.ref x) [.str f tk, v] [] _ SF.kind SF.split is (SF.args (.ref x) (.str f tk) v) ?_)
  rw [PySem.W.osa_eq, refuse_eq]
  refine wpAny_bind (wpAny_bind (I.type.at (wpAny_bind (lm.at ?_))))
  rw [hm, ke_refuse]
  refine wpAny_pure (wpAny_bind (I.type.at (wpAny_bind ((PySem.W.looks_findIn X ha).at (wpAny_bind (ls.at ?_))))))
  show wpAny _ _ (storeInOwnDict (.ref x) (.ref C) (.str f tk) f v false) _ _ _
  obtain ⟨nm, bs, mro, ns, qn, hd, sn, sb, ab, col, del⟩ := cd
  dsimp only at hh
  subst hh
  unfold storeInOwnDict ownDictForStores
  repeat (first | with_reducible refine PySem.HandSPX.store_in_new ?_ ?_ | with_reducible refine wpAny_loadPart_at hx ?_ | with_reducible refine lc.at ?_ | wp_step)
  · exact ⟨_, #[], _, (Heap.get?_update_ne _ _ _ _ nx.symm).trans (Heap.get?_push_at rfl rfl), rfl, fun e he => absurd he (by simp), fun _ => rfl⟩
  · intro h' tk' hn hs
    refine hq h' tk' hp.objs.size (fun b o hb ho => ?_) (Nat.le_refl _) nx.symm ?_ hn
    · rw [hs.2 b (Nat.ne_of_lt (Heap.lt_size ho)), Heap.get?_update_ne _ _ _ _ hb]
      exact Heap.get?_push_of_some _ ho
    · rw [hs.2 x nx]
      exact Heap.get?_update_self _ (Heap.get?_push_of_some _ hx) rfl
end
structure KexC (K : PySem.W.Frag) (C : Addr) : Prop where
  cls : ∃ nm q N bs sn sub ab col dd k0 k1 k2 k3 k5, K.lookup C = some (keObj nm q C N bs true sn sub ab col dd k0 k1 k2 k3 k5)
  sa : PySem.W.findIn K (.ref C) "__setattr__" = some (some (.builtin "object.__setattr__"))
  exC : PySem.W.subIn K (.ref C) (.type "BaseException") = some true
  tyC : PySem.W.typeIn K (.ref C) = some (.type "type")
  kC : PySem.W.keepIn K (.ref C) = true
section
variable {X : Cx} {pins : List (Addr × Obj)} {σ : L2.St} {H : Hp} {s : Shared} {a C dx : Addr} {f : Str} {y : V} {u : Value} {E : Value → Shared → Prop} {A : Around}
theorem kst_new {Q : Unit → Shared → Prop} (T : KexC X.K C) (I : L2.Inv X pins σ H s) (e : H a = some (exo a C none)) (hno : PySem.W.findIn X.K (.ref C) f = some none) (ry : RelV y u)
    (h : ∀ dx s', H dx = none → dx ≠ a → L2.Inv X pins σ (upd (upd H dx (exd dx [(f, y)])) a (exo a C (some dx))) s' → Q () s') : wpAny (model X.prog X.w) A (setAttr (.ref a) f u) Q E s := by
  obtain ⟨nm, q, N, bs, sn, sub, ab, col, dd, k0, k1, k2, k3, k5, hC⟩ := T.cls
  have hcl : PySem.W.clsIn X.K C = some { name := nm, bases := bs, mro := .ref C :: keMro, ns := N, qualname := q, hasDict := true, slotNames := sn, subclasses := sub, abstract := ab, collection := col, hasDel := false } := by
    unfold PySem.W.clsIn
    rw [hC] <;> rfl
  obtain ⟨t1, ho⟩ := exo_at I.hok e
  obtain ⟨hp, g, d, t, os⟩ := s
  refine PySem.W.set_plain I.kIn (ox := { cls := .ref C, dict := none, data := .fields #[.ref t1, .none, .none, .none, .bool false, .none] }) (od := none) ⟨ho, rfl, rfl, trivial⟩ T.sa ?_
  refine ke_store I.kIn ho hcl rfl rfl hno fun h' tk' dx k dn dne hx hn => ?_
  have hnd : H dx = none := I.hok.fresh dn
  have nd : ∀ {b : Addr} {o : Obj}, hp.get? b = some o → b ≠ dx := fun q => Nat.ne_of_lt (Nat.lt_of_lt_of_le (Heap.lt_size q) dn)
  have na : ∀ {b : Addr}, H b = none → b ≠ a := fun n z => by
    rw [z, e] at n
    cases n
  have un : Un X.fs [] H (upd (upd H dx (exd dx [(f, y)])) a (exo a C (some dx))) hp h' :=
    { keep := fun b o q n _ _ => k b o (na n) q
      slot := fun b o q n _ _ => ⟨o.slots, k b o (na n) q⟩
      free := fun b o q n _ => by rw [upd_ne (na n), upd_ne (nd q)]; exact n
      there := fun b o q _ => by
        by_cases hb : b = a
        · exact ⟨_, by rw [hb]; exact hx⟩
        · exact ⟨o, k b o hb q⟩
      tups := fun b xs q => by rw [upd_ne (at_ne e q exo_tup), upd_ne (ne_of_none q hnd)]; exact q
      frzs := fun b o v q => by rw [upd_ne (at_ne e q exo_frz), upd_ne (ne_of_none q hnd)]; exact q
      tbls := fun b ps q => ⟨#[], by rw [upd_ne (at_ne e q exo_tbl), upd_ne (ne_of_none q hnd), q]; simp⟩ }
  refine h dx _ hnd dne (I.un (t' := tk') un fun b o q => ?_)
  by_cases hb : b = a
  · subst hb
    rw [upd_same] at q
    cases q
    exact exo_ok hx
  · rw [upd_ne hb] at q
    by_cases hd : b = dx
    · subst hd
      rw [upd_same] at q
      cases q
      exact exd_ok hn (relO_put (fs := []) ry fun g => True.intro)
    · rw [upd_ne hd] at q
      refine (I.hok b o q).stay (fun c v hc z => k c v ?_ z) (fun c hc => ?_) fun c xs hc => ?_
      · rcases hc with hc | hc
        · rw [hc]; exact hb
        · exact at_ne e hc exo_own
      · rw [upd_ne (at_ne e hc exo_own), upd_ne (ne_of_none hc hnd)]; exact hc
      · rw [upd_ne (at_ne e hc exo_tup), upd_ne (ne_of_none hc hnd)]; exact hc
theorem kinit_ok {us : List Value} {Q : Value → Shared → Prop} (T : KexC X.K C) (I : L2.Inv X pins σ H s) (e : H a = some (exo a C none)) (hl : us.length ≤ sizeLine) (h : ∀ s', L2.Inv X pins σ H s' → Q .none s') : wpAny (model X.prog X.w) A (call (.builtin "KeyError.__init__") (.ref a :: us)) Q E s := by
  obtain ⟨nm, q, N, bs, sn, sub, ab, col, dd, k0, k1, k2, k3, k5, hC⟩ := T.cls
  obtain ⟨t1, ho⟩ := exo_at I.hok e
  obtain ⟨hp, g, d, t, os⟩ := s
  refine wpAny_call (ke_init (I.kIn _ _ hC) ho hl fun h' t2 k hx => ?_)
  have J := I.write (t' := t) (x := a) (e := a) (o := exo a C none) (by rw [e]; exact True.intro) (.inl rfl) k ⟨_, hx⟩ (exo_ok hx)
  rw [show upd H a (exo a C none) = H from funext fun b => by
    by_cases hb : b = a
    · rw [hb, upd_same, e]
    · rw [upd_ne hb]] at J
  exact h _ J
end
end Vi
end
section
namespace Vi
open PySem PySem.Spec L2
open PyProof.Rows (AllBare)
def tKeI (K : PySem.W.Frag) (ta : TA) : TE := fun σ H Q => ta σ H fun vs H1 => ∃ (a C : Addr) (ws : List V), vs = .ref a :: ws ∧ ws.length ≤ 1000 ∧ KexC K C ∧ H1 a = some (exo a C none) ∧ Q .non H1
def tKst (K : PySem.W.Frag) (f : Str) (to te : TE) : TS := fun D σ H => te σ H fun y H1 => to σ H1 fun x H2 => ∃ a C : Addr, x = .ref a ∧ KexC K C ∧ PySem.W.findIn K (.ref C) f = some none ∧ H2 a = some (exo a C none) ∧
  ∀ dx, H2 dx = none → dx ≠ a → D.nx σ (upd (upd H2 dx (exd dx [(f, y)])) a (exo a C (some dx)))
section
variable {X : Cx} {o e : Expr} {es : List Expr} {to te : TE} {ta : TA} {f : Str} {p p' p1 p2 pos : Pos}
theorem pe_keinit {pl : Sem Bool} (hg : Gl X "KeyError") (hm : X.mg "KeyError" = none) (hv : PySem.W.findCls X.K (.type "KeyError") (.type "type") "__init__" = some (.val (.builtin "KeyError.__init__"))) (ha : PA X (e :: es) ta)
    (hc : eval (.Call (.Attribute (.Name "KeyError" p1) "__init__" p2) (e :: es) [] pos) X.env = (do
      let ov ← eval (.Name "KeyError" p1) X.env
      standAt p2.atName
      let (f, first) ← holding [ov] (getMethod ov "__init__" pl)
      callWith pos f first (backTo pos (starEach (e :: es) X.env)) (backToKw pos (keywordEach [] X.env))) := by rfl)
    (he : starEach (e :: es) X.env = (false, eval e X.env) :: starEach es X.env := by rfl) (hpl : (backTo pos (starEach es X.env)).any (·.1) = false := by rfl) :
    PE X (.Call (.Attribute (.Name "KeyError" p1) "__init__" p2) (e :: es) [] pos) (tKeI X.K ta) := by
  refine ⟨fun pins s σ H Q I h => PySem.W.methodCall_KW (ld_blt I hg hm boot_KeyError ?_ (by decide) (by decide)) hc⟩
  obtain ⟨m, fr⟩ := I.fr
  refine PySem.W.method_type fr I.ok.mod.kin ty_KeyError (by decide +kernel) hv (by decide +kernel) ?_
  show wpAny _ _ (callWith pos (Value.builtin "KeyError.__init__") [] (backTo pos (starEach (e :: es) X.env)) []) _ _ _
  refine PyProof.Rows.callWith_method1 (thn (ha.run pos pins _ σ H _ (I.tok _) h) fun us s1 ⟨vs, H1, I1, r1, a, C, ws, ev, hl, T, ea, q⟩ => ?_) he hpl
  subst ev
  cases r1 with
  | @cons _ u0 _ ur ra rw' =>
    cases (show u0 = Value.ref a from ra)
    exact kinit_ok T I1 ea (by rw [← Paired.length rw', sizeLine_eq]; omega) fun s' J => ⟨.non, H1, J, rfl, q⟩
theorem ps_kst (ho : PE X o to) (he : PE X e te) (hs : swapsWith e (some (.Attribute o f p')) pos.line X.env = pure false := by rfl) : PS X (.Assign [.Attribute o f p'] e pos) (tKst X.K f to te) :=
  ⟨fun pins s σ H D I h => plainObj_wpAny_Assign_Attribute (thn (he.run pins s σ H _ I h) fun v s1 ⟨y, H1, I1, r1, q1⟩ => thn (ho.run pins s1 σ H1 _ I1 q1) fun u s2 ⟨x, H2, I2, r2, a, C, ex, T, hno, ea, q⟩ => by
    subst ex
    cases (show u = Value.ref a from r2)
    exact kst_new T I2 ea hno r1 fun dx s' n ne J => ⟨σ, _, J, q dx n ne⟩) hs⟩
end
structure XkC (K : PySem.W.Frag) (mg : Str → Option Value) (c : String → Addr) (x : Str) (C : String) (f : Addr) (n : Str) : Prop where
  ox : KexC K (c C)
  gl : mg x = some (.ref (c C))
  ic : PySem.W.findIn K (.ref (c C)) "__init__" = some (some (.ref f))
  ti : PySem.W.typeIn K (.ref f) = some (.type "function")
  no : PySem.W.findIn K (.ref (c C)) n = some none
section
variable {P : Program} {w : World} {K : PySem.W.Frag} {mg : Str → Option Value} {base : Heap} {CX : CXT} {c : String → Addr} {C : String} {f : Addr} {fd : FuncData} {st : Stmt} {qual x n1 m : Str} {k : Nat}
theorem kinit1 (F : FunX K "__init__" qual st f fd) (T : XkC K mg c x C f n1) (S : FnScope ["self", n1] ["self", n1] (defScope st))
    (hb : ∀ (cdv : Value) (A : Around) (outer : List PySem.Env) (s : Shared) (H : Hp) (E : XK), PSs (cxOf CX P w K mg base ["self", n1] qual (defScope st) f cdv A outer s H E) (defBody st)
      (tSeq (tDrop (tKeI K (tCons (tVar 0) (tCons (tC (.str m)) tNil)))) (tKst K n1 (tVar 0) (tVar 1)))) : FnOk P w K mg base CX (k + 1) f fd ["self", n1] (spI (c C) [n1]) := by
  refine init_run F S rfl hb fun H vs Q E h => ?_
  obtain ⟨a, ws, rfl, hl, _, ea, hQ⟩ := h
  match ws, hl with
  | [v1], _ =>
  refine ⟨.ref a, rfl, a, c C, [.str m], rfl, (by show 1 ≤ 1000; decide), T.ox, ea, v1, rfl, .ref a, rfl, a, c C, rfl, T.ox, T.no, ea, fun dx hdx ne => ?_⟩
  exact hQ _ dx hdx ne upd_same (by rw [upd_ne ne, upd_same]; rfl) fun b h1 h2 => by rw [upd_ne h1, upd_ne h2]
end
section
variable {X : Cx} {e : Expr} {es : List Expr} {ta : TA} {p pos : Pos}
theorem pmk_key {CX : CXT} {x : Str} {C fI : Addr} {k : Nat} {fd : FuncData} {ps : List Str} {sp : Sp} (T : KexC X.K C) (iC : PySem.W.findIn X.K (.ref C) "__init__" = some (some (.ref fI))) (tI : PySem.W.typeIn X.K (.ref fI) = some (.type "function"))
    (F1 : FnOk X.prog X.w X.K X.mg X.base CX k fI fd ps sp) (hr : Room (k + 1) X.A) (hb : Binds X.K fd ps []) (hx : Passes CX X (fun _ _ _ => False)) (hg : Gl X x) (hm : X.mg x = some (.ref C)) (ha : PA X (e :: es) ta)
    (hdb : (x == ("__debug__" : Str)) = false := by decide) (he : starEach (e :: es) X.env = (false, eval e X.env) :: starEach es X.env := by rfl) (hpl : (backTo pos (starEach es X.env)).any (·.1) = false := by rfl) :
    PMk X (.Call (.Name x p) (e :: es) [] pos) (tMkO C sp [] ta) := by
  intro pins s σ H Q I h
  obtain ⟨nm, q, N, bs, sn, sub, ab, col, dd, k0, k1, k2, k3, k5, hC⟩ := T.cls
  refine wpAny_Call_Name_kw (ld_glob I hg hm ?_ hdb)
  refine PySem.W.callWith_K (h₀ := X.base) I.ok.mod.kin T.kC (thn (ha.run pos pins s σ H _ I h) fun us s1 ⟨vs, H1, I1, r1, hz, q1⟩ => ⟨I1.kIn, ?_⟩) he hpl
  obtain ⟨hp, g, dr, tk, os⟩ := s1
  obtain ⟨a, ea⟩ : ∃ a, a = hp.objs.size + 1 := ⟨_, rfl⟩
  have le : hp.objs.size ≤ a := by omega
  have na : H1 a = none := I1.hok.fresh le
  have hq := q1 a na
  rw [List.append_nil] at hq
  obtain ⟨h2, eh⟩ : ∃ h2, h2 = (hp.push (PySem.W.kdv_tup us)).push (PySem.HandSPX.excO C hp.objs.size) := ⟨_, rfl⟩
  have up : ∀ b o, hp.get? b = some o → h2.get? b = some o := fun b o z => by
    rw [eh]
    exact Heap.get?_push_of_some _ (Heap.get?_push_of_some _ z)
  have new : h2.get? a = some (PySem.HandSPX.excO C hp.objs.size) := by
    rw [eh, ea]
    heap_get
  have I2 : L2.Inv X pins σ (upd H1 a (exo a C none)) ⟨h2, g, dr, tk, os⟩ := I1.laid (t' := tk) up le (exo_ok new)
  have r2 : Vals (V.ref a :: vs) (Value.ref a :: us) := .cons rfl r1
  have hl : (Value.ref a :: us).length = ps.length := by rw [← F1.len _ _ _ _ hq]; exact r2.length.symm
  have hu : us.length ≤ sizeLine := by
    rw [← Paired.length r1, sizeLine_eq]
    omega
  have run := F1.run _ X.stack _ _ ⟨Value.ref a :: us, []⟩ (Value.ref a :: us) _ _ (fun _ _ _ => False) (hr.make C us []) (I2.env0.make C us []) (by simpa using hb _ (Value.ref a :: us) I2.kIn (by simpa using hl)) r2 hq
  subst eh ea
  show wpAny _ _ (call (.ref C) us) _ _ _
  refine wpAny_call (ke_call (I1.kIn _ _ hC) (PySem.W.looks_findIn I1.kIn iC) (fun self => PySem.W.bind_fn I1.kIn self tI) hu (codeAny_mono run fun r s' z => ?_))
  match r, z with
  | .error er, z => exact hx pins σ _ _ er s' I2 z
  | .ok (.ret u), z =>
    obtain ⟨v, H2, os2, bare, un, hok, rv, ev, d, fs, e1, e2, e3, q2⟩ := z
    subst ev
    obtain ⟨h3, g3, d3, t3, os3⟩ := s'
    exact ⟨rv, mk_end (raises_own T.exC T.tyC) I1 le up un hok os2 bare e1 e2 e3 q2⟩
end
theorem ke_find {K : PySem.W.Frag} : PySem.W.findCls K (.type "KeyError") (.type "type") "__init__" = some (.val (.builtin "KeyError.__init__")) := by kernel_rfl
section
variable {X : Cx} {c : String → Addr} {EX : WX} {x : Str} {C : String} {f : Addr} {fd : FuncData} {ps : List Str} {n : Str} {k : Nat} {e : Expr} {es : List Expr} {mr : M (List D)} {p pos pos' : Pos}
theorem se_mkK (T : XkC X.K X.mg c x C f n) (F : FnOk X.prog X.w X.K X.mg X.base (L2.CX X.prog X.w) k f fd ps (spI (c C) [n])) (hr : RoomG (k + 1) X.A) (hb : Binds X.K fd ps []) (hg : Gl X x)
    (ha : PA X (e :: es) (tA ⟨X.K, c, X.w⟩ EX mr)) (hdb : (x == ("__debug__" : Str)) = false := by decide) (he : starEach (e :: es) X.env = (false, eval e X.env) :: starEach es X.env := by rfl) (hpl : (backTo pos (starEach es X.env)).any (·.1) = false := by rfl) :
    PE X (.Call (.Name x p) (e :: es) [] pos) (tE ⟨X.K, c, X.w⟩ EX (mMkX C [n] mr)) :=
  PE.imp (pe_mk (pmk_key T.ox T.ic T.ti F hr.room hb (fun pins σ H s e s' I h => by
    obtain ⟨_, _, _, _, _, _, _, _, _, _, _, _, z⟩ := h
    exact z.elim) hg T.gl ha hdb he hpl)) fun σ H Q h => mkX_of (by simp) (by simp) h
end
end Vi
end
section
namespace Vi
open PySem PySem.Spec L2 PyProof.Rows
section
variable {P : Program} {w : World} {A : Around} {E : Value → Shared → Prop} {s : Shared} {S b c : Addr} {r q : List Bool}
abbrev RowAt (P : Program) (w : World) (h : Heap) (r : List Bool) (b : Addr) : Prop := IsTupleKey (leafKind P w) h (r.map leafB) b
abbrev rowH (P : Program) (w : World) (r : List Bool) : Int := tupleKeyHash (leafKind P w) (r.map leafB)
abbrev entRw (P : Program) (w : World) (p : List Bool × Addr) : Int × Value := (rowH P w p.1, .ref p.2)
structure TabB (P : Program) (w : World) (h : Heap) (S : Addr) (L : List (List Bool × Addr)) (es : Array (Int × Value)) (ep : Nat) (t : SetTable) : Prop where
  at_ : ∃ o, h.get? S = some o ∧ o.ExactSet ∧ o.data = .set es ep t
  ents : es.toList = L.map (entRw P w)
  tab : TabOk t (L.map fun p => rowH P w p.1)
  rows : ∀ p ∈ L, RowAt P w h p.1 p.2
  plain : t.plain = true
  led : w.params.followText "set-order" = true ∨ t.led = true
  room : L.length * 5 < t.mask * 3
  few : L.length < 64
variable {L : List (List Bool × Addr)} {es : Array (Int × Value)} {ep : Nat} {t : SetTable}
theorem TabB.new {h : Heap} (ho : h.get? S = some (newS w)) : TabB P w h S [] #[] 0 (.fresh 0 0 (!w.params.followText "set-order")) where
  at_ := ⟨_, ho, ⟨rfl, rfl, rfl⟩, rfl⟩
  ents := rfl
  tab := { ris := .nil, dm := rfl, sz := rfl, mok := .inl rfl, bd := (fun _ h => nomatch h), reach := (fun _ _ _ h => nomatch h) }
  rows := fun _ h => nomatch h
  plain := rfl
  led := by
    show _ ∨ (!w.params.followText "set-order") = true
    cases w.params.followText "set-order" <;> simp
  room := by show 0 * 5 < 7 * 3; decide
  few := by show 0 < 64; decide
end
end Vi
end
section
namespace Lw
open PySem PySem.Spec L2 Vi Mb
noncomputable def b_law_made : SM :=
  (sSeq (sIf (mBl (m2 dEq (mVar 0) (mC (.int 0))))
  (sRet (mMkX "NoName" ["name"] (mArgs (mC (.str "ab")) mArgs0)))
  sPass)
  (sSeq (sIf (mBl (m2 dEq (mVar 0) (mC (.int 1))))
  (sRet (mMkX "NoField" ["part", "place"] (mArgs (mVar 1) (mArgs (mVar 2) mArgs0))))
  sPass)
  (sSeq (sIf (mBl (m2 dEq (mVar 0) (mC (.int 2))))
  (sRet (mMkX "NoCase" ["part", "place"] (mArgs (mVar 1) (mArgs (mVar 2) mArgs0))))
  sPass)
  (sSeq (sIf (mBl (m2 dEq (mVar 0) (mC (.int 3))))
  (sRet (mMkX "NoBook" ["place"] (mArgs (mVar 2) mArgs0)))
  sPass)
  (sSeq (sIf (mBl (m2 dEq (mVar 0) (mC (.int 4))))
  (sRet (mMkX "NoText" ["at"] (mArgs (mVar 2) mArgs0)))
  sPass)
  (sSeq (sIf (mBl (m2 dEq (mVar 0) (mC (.int 5))))
  (sRet (mMkX "TooMany" ["size"] (mArgs (mVar 2) mArgs0)))
  sPass)
  (sSeq (sIf (mBl (m2 dEq (mVar 0) (mC (.int 6))))
  (sRet (mMkX "NotOnce" ["wish"] (mArgs (mVar 2) mArgs0)))
  sPass)
  (sSeq (sIf (mBl (m2 dEq (mVar 0) (mC (.int 7))))
  (sRet (mMkX "NoProgram" ["part"] (mArgs (mVar 1) mArgs0)))
  sPass)
  (sSeq (sIf (mBl (m2 dLt (mVar 0) (mC (.int 12))))
  (sRet (m2 dIx (mA (newL true) (mArgs (mMkT "NoRow") (mArgs (mMkT "NoWish") (mArgs (mMkT "NoLeaf") (mArgs (mMkT "NoWord") mArgs0))))) (m2 dSub (mVar 0) (mC (.int 8)))))
  sPass)
  (sRet (m2 dIx (mA (newL true) (mArgs (mMkT "NoNumbers") (mArgs (mMkT "NoWhen") (mArgs (mMkT "NoChange") (mArgs (mMkT "NoLine") (mArgs (mMkT "NoKeeper") mArgs0)))))) (m2 dSub (mVar 0) (mC (.int 12))))))))))))))
noncomputable def m_law_made : List D → List O → R D := runB 3 b_law_made
noncomputable def b_law_part : SM :=
  (sSeq (sIf (mBl (m2 dEq (mVar 1) (mC (.int 1))))
  (sRet (m2 dIx (mA (newL true) (mArgs (mC (.str "inputs")) (mArgs (mC (.str "wishes")) mArgs0))) (mCall m_law_take [] (mArgs (mVar 0) (mArgs (mC (.int 2)) mArgs0)))))
  sPass)
  (sSeq (sIf (mBl (m2 dEq (mVar 1) (mC (.int 2))))
  (sRet (m2 dIx (mA (newL true) (mArgs (mC (.str "rows")) (mArgs (m2 dIx (mA (newL true) (mArgs (mC (.str "many")) (mArgs (mC (.str "decision")) (mArgs (mC (.str "rows")) mArgs0)))) (mCall m_law_take [] (mArgs (mVar 0) (mArgs (mC (.int 3)) mArgs0)))) mArgs0))) (mA fInt (mArgs (m2 dIs (mVar 2) (mC .non)) mArgs0))))
  sPass)
  (sRet (m2 dIx (mA (newL true) (mArgs (mC (.str "inputs")) (mArgs (mC (.str "steps")) mArgs0))) (mCall m_law_take [] (mArgs (mVar 0) (mArgs (mC (.int 2)) mArgs0)))))))
noncomputable def m_law_part : List D → List O → R D := runB 3 b_law_part
noncomputable def b_law_sorts : SM :=
  (sSeq (sSet 1 (mA (newL true) (mArgs (m1 (fIsX [("NoName", true), ("NoField", false), ("NoCase", false), ("NoBook", false), ("NoText", false), ("TooMany", false), ("NotOnce", false), ("NoProgram", false), ("NoNumbers", false), ("NoWhen", false), ("NoChange", false), ("NoLine", false), ("NoKeeper", false), ("NoRow", false), ("NoWish", false), ("NoLeaf", false), ("NoWord", false)]) (mVar 0)) (mArgs (m1 (fIsX [("NoName", false), ("NoField", true), ("NoCase", false), ("NoBook", false), ("NoText", false), ("TooMany", false), ("NotOnce", false), ("NoProgram", false), ("NoNumbers", false), ("NoWhen", false), ("NoChange", false), ("NoLine", false), ("NoKeeper", false), ("NoRow", false), ("NoWish", false), ("NoLeaf", false), ("NoWord", false)]) (mVar 0)) (mArgs (m1 (fIsX [("NoName", false), ("NoField", false), ("NoCase", true), ("NoBook", false), ("NoText", false), ("TooMany", false), ("NotOnce", false), ("NoProgram", false), ("NoNumbers", false), ("NoWhen", false), ("NoChange", false), ("NoLine", false), ("NoKeeper", false), ("NoRow", false), ("NoWish", false), ("NoLeaf", false), ("NoWord", false)]) (mVar 0)) (mArgs (m1 (fIsX [("NoName", false), ("NoField", false), ("NoCase", false), ("NoBook", true), ("NoText", false), ("TooMany", false), ("NotOnce", false), ("NoProgram", false), ("NoNumbers", false), ("NoWhen", false), ("NoChange", false), ("NoLine", false), ("NoKeeper", false), ("NoRow", false), ("NoWish", false), ("NoLeaf", false), ("NoWord", false)]) (mVar 0)) mArgs0))))))
  (sSeq (sSet 1 (m2 (dAdd true) (mVar 1) (mA (newL true) (mArgs (m1 (fIsX [("NoName", false), ("NoField", false), ("NoCase", false), ("NoBook", false), ("NoText", true), ("TooMany", false), ("NotOnce", false), ("NoProgram", false), ("NoNumbers", false), ("NoWhen", false), ("NoChange", false), ("NoLine", false), ("NoKeeper", false), ("NoRow", false), ("NoWish", false), ("NoLeaf", false), ("NoWord", false)]) (mVar 0)) (mArgs (m1 (fIsX [("NoName", false), ("NoField", false), ("NoCase", false), ("NoBook", false), ("NoText", false), ("TooMany", true), ("NotOnce", false), ("NoProgram", false), ("NoNumbers", false), ("NoWhen", false), ("NoChange", false), ("NoLine", false), ("NoKeeper", false), ("NoRow", false), ("NoWish", false), ("NoLeaf", false), ("NoWord", false)]) (mVar 0)) (mArgs (m1 (fIsX [("NoName", false), ("NoField", false), ("NoCase", false), ("NoBook", false), ("NoText", false), ("TooMany", false), ("NotOnce", true), ("NoProgram", false), ("NoNumbers", false), ("NoWhen", false), ("NoChange", false), ("NoLine", false), ("NoKeeper", false), ("NoRow", false), ("NoWish", false), ("NoLeaf", false), ("NoWord", false)]) (mVar 0)) (mArgs (m1 (fIsX [("NoName", false), ("NoField", false), ("NoCase", false), ("NoBook", false), ("NoText", false), ("TooMany", false), ("NotOnce", false), ("NoProgram", true), ("NoNumbers", false), ("NoWhen", false), ("NoChange", false), ("NoLine", false), ("NoKeeper", false), ("NoRow", false), ("NoWish", false), ("NoLeaf", false), ("NoWord", false)]) (mVar 0)) mArgs0)))))))
  (sSeq (sSet 1 (m2 (dAdd true) (mVar 1) (mA (newL true) (mArgs (m1 (fIsX [("NoName", false), ("NoField", false), ("NoCase", false), ("NoBook", false), ("NoText", false), ("TooMany", false), ("NotOnce", false), ("NoProgram", false), ("NoNumbers", false), ("NoWhen", false), ("NoChange", false), ("NoLine", false), ("NoKeeper", false), ("NoRow", true), ("NoWish", false), ("NoLeaf", false), ("NoWord", false)]) (mVar 0)) (mArgs (m1 (fIsX [("NoName", false), ("NoField", false), ("NoCase", false), ("NoBook", false), ("NoText", false), ("TooMany", false), ("NotOnce", false), ("NoProgram", false), ("NoNumbers", false), ("NoWhen", false), ("NoChange", false), ("NoLine", false), ("NoKeeper", false), ("NoRow", false), ("NoWish", true), ("NoLeaf", false), ("NoWord", false)]) (mVar 0)) (mArgs (m1 (fIsX [("NoName", false), ("NoField", false), ("NoCase", false), ("NoBook", false), ("NoText", false), ("TooMany", false), ("NotOnce", false), ("NoProgram", false), ("NoNumbers", false), ("NoWhen", false), ("NoChange", false), ("NoLine", false), ("NoKeeper", false), ("NoRow", false), ("NoWish", false), ("NoLeaf", true), ("NoWord", false)]) (mVar 0)) (mArgs (m1 (fIsX [("NoName", false), ("NoField", false), ("NoCase", false), ("NoBook", false), ("NoText", false), ("TooMany", false), ("NotOnce", false), ("NoProgram", false), ("NoNumbers", false), ("NoWhen", false), ("NoChange", false), ("NoLine", false), ("NoKeeper", false), ("NoRow", false), ("NoWish", false), ("NoLeaf", false), ("NoWord", true)]) (mVar 0)) mArgs0)))))))
  (sSeq (sSet 1 (m2 (dAdd true) (mVar 1) (mA (newL true) (mArgs (m1 (fIsX [("NoName", false), ("NoField", false), ("NoCase", false), ("NoBook", false), ("NoText", false), ("TooMany", false), ("NotOnce", false), ("NoProgram", false), ("NoNumbers", true), ("NoWhen", false), ("NoChange", false), ("NoLine", false), ("NoKeeper", false), ("NoRow", false), ("NoWish", false), ("NoLeaf", false), ("NoWord", false)]) (mVar 0)) (mArgs (m1 (fIsX [("NoName", false), ("NoField", false), ("NoCase", false), ("NoBook", false), ("NoText", false), ("TooMany", false), ("NotOnce", false), ("NoProgram", false), ("NoNumbers", false), ("NoWhen", true), ("NoChange", false), ("NoLine", false), ("NoKeeper", false), ("NoRow", false), ("NoWish", false), ("NoLeaf", false), ("NoWord", false)]) (mVar 0)) (mArgs (m1 (fIsX [("NoName", false), ("NoField", false), ("NoCase", false), ("NoBook", false), ("NoText", false), ("TooMany", false), ("NotOnce", false), ("NoProgram", false), ("NoNumbers", false), ("NoWhen", false), ("NoChange", true), ("NoLine", false), ("NoKeeper", false), ("NoRow", false), ("NoWish", false), ("NoLeaf", false), ("NoWord", false)]) (mVar 0)) (mArgs (m1 (fIsX [("NoName", false), ("NoField", false), ("NoCase", false), ("NoBook", false), ("NoText", false), ("TooMany", false), ("NotOnce", false), ("NoProgram", false), ("NoNumbers", false), ("NoWhen", false), ("NoChange", false), ("NoLine", true), ("NoKeeper", false), ("NoRow", false), ("NoWish", false), ("NoLeaf", false), ("NoWord", false)]) (mVar 0)) mArgs0)))))))
  (sRet (m2 (dAdd true) (mVar 1) (mA (newL true) (mArgs (m1 (fIsX [("NoName", false), ("NoField", false), ("NoCase", false), ("NoBook", false), ("NoText", false), ("TooMany", false), ("NotOnce", false), ("NoProgram", false), ("NoNumbers", false), ("NoWhen", false), ("NoChange", false), ("NoLine", false), ("NoKeeper", true), ("NoRow", false), ("NoWish", false), ("NoLeaf", false), ("NoWord", false)]) (mVar 0)) mArgs0))))))))
noncomputable def m_law_sorts : List D → List O → R D := runB 2 b_law_sorts
noncomputable def b_law_kinds : SM :=
  (sSeq (sSet 1 (mA (newL true) (mArgs (m1 (fIsX [("NoName", false), ("NoField", true), ("NoCase", true), ("NoBook", true), ("NoText", true), ("TooMany", true), ("NotOnce", true), ("NoProgram", true), ("NoNumbers", true), ("NoWhen", true), ("NoChange", true), ("NoLine", true), ("NoKeeper", false), ("NoRow", true), ("NoWish", true), ("NoLeaf", true), ("NoWord", true)]) (mVar 0)) (mArgs (m1 (fIsX [("NoName", false), ("NoField", true), ("NoCase", true), ("NoBook", true), ("NoText", true), ("TooMany", true), ("NotOnce", true), ("NoProgram", true), ("NoNumbers", true), ("NoWhen", true), ("NoChange", true), ("NoLine", true), ("NoKeeper", false), ("NoRow", true), ("NoWish", true), ("NoLeaf", true), ("NoWord", true)]) (mVar 0)) (mArgs (m1 (fIsX [("NoName", true), ("NoField", false), ("NoCase", false), ("NoBook", false), ("NoText", false), ("TooMany", false), ("NotOnce", false), ("NoProgram", false), ("NoNumbers", false), ("NoWhen", false), ("NoChange", false), ("NoLine", false), ("NoKeeper", false), ("NoRow", false), ("NoWish", false), ("NoLeaf", false), ("NoWord", false)]) (mVar 0)) (mArgs (m1 (fIsX [("NoName", true), ("NoField", false), ("NoCase", false), ("NoBook", false), ("NoText", false), ("TooMany", false), ("NotOnce", false), ("NoProgram", false), ("NoNumbers", false), ("NoWhen", false), ("NoChange", false), ("NoLine", false), ("NoKeeper", true), ("NoRow", false), ("NoWish", false), ("NoLeaf", false), ("NoWord", false)]) (mVar 0)) mArgs0))))))
  (sRet (mVar 1)))
noncomputable def m_law_kinds : List D → List O → R D := runB 2 b_law_kinds
noncomputable def b_law_kept : SM :=
  (sSeq (sIf (mBl (m2 dEq (mVar 0) (mC (.int 0))))
  (sRet (m2 dEq (m1 (dFldL ["NoName"] "name") (mVar 1)) (mC (.str "ab"))))
  sPass)
  (sSeq (sIf (mBl (m2 (dIn false) (mVar 0) (mA (newL true) (mArgs (mC (.int 1)) (mArgs (mC (.int 2)) mArgs0)))))
  (sRet (m2 dEq (mA (newL true) (mArgs (m1 (dFldL ["NoField", "NoCase", "NoProgram"] "part") (mVar 1)) (mArgs (m1 (dFldL ["NoField", "NoCase", "NoBook"] "place") (mVar 1)) mArgs0))) (mA (newL true) (mArgs (mVar 2) (mArgs (mVar 3) mArgs0)))))
  sPass)
  (sSeq (sIf (mBl (m2 dEq (mVar 0) (mC (.int 3))))
  (sRet (m2 dEq (m1 (dFldL ["NoField", "NoCase", "NoBook"] "place") (mVar 1)) (mVar 3)))
  sPass)
  (sSeq (sIf (mBl (m2 dEq (mVar 0) (mC (.int 4))))
  (sRet (m2 dEq (m1 (dFldL ["NoText"] "at") (mVar 1)) (mVar 3)))
  sPass)
  (sSeq (sIf (mBl (m2 dEq (mVar 0) (mC (.int 5))))
  (sRet (m2 dEq (m1 (dFldL ["TooMany"] "size") (mVar 1)) (mVar 3)))
  sPass)
  (sSeq (sIf (mBl (m2 dEq (mVar 0) (mC (.int 6))))
  (sRet (m2 dEq (m1 (dFldL ["NotOnce"] "wish") (mVar 1)) (mVar 3)))
  sPass)
  (sRet (mOr (m2 dNe (mVar 0) (mC (.int 7))) (m2 dEq (m1 (dFldL ["NoField", "NoCase", "NoProgram"] "part") (mVar 1)) (mVar 2))))))))))
noncomputable def m_law_kept : List D → List O → R D := runB 4 b_law_kept
noncomputable def b_law_1 : SM :=
  (sSeq (sSet 3 (m2 dIx (mA (newL true) (mArgs (mC .non) (mArgs (mC (.int 0)) (mArgs (m2 (dAdd true) (mC (.int 1)) (mCall m_law_take [] (mArgs (mVar 1) (mArgs (m2 dIx (mA (newL true) (mArgs (mC (.int 400)) (mArgs (mC (.int 7)) mArgs0))) (mA fInt (mArgs (m2 dEq (mVar 2) (mC (.int 6))) mArgs0))) mArgs0)))) mArgs0)))) (mCall m_law_take [] (mArgs (mVar 1) (mArgs (mC (.int 3)) mArgs0)))))
  (sSeq (sIf (mOrT (mAndT (mBl (m2 dEq (mVar 2) (mC (.int 5)))) (mBl (m2 dIs (mVar 3) (mC .non)))) (mAndT (mBl (m2 dEq (mVar 2) (mC (.int 5)))) (mBl (m2 dLt (mVar 3) (mC (.int 13))))))
  (sSet 3 (m2 dIx (mA (newL true) (mArgs (mC (.int 13)) (mArgs (mC (.int 17)) (mArgs (mC (.int 41)) (mArgs (mC (.int 256)) (mArgs (mC (.int 4001)) mArgs0)))))) (mCall m_law_take [] (mArgs (mVar 1) (mArgs (mC (.int 5)) mArgs0)))))
  sPass)
  (sSeq (sSet 4 (mCall m_law_part [] (mArgs (mVar 1) (mArgs (mVar 2) (mArgs (mVar 3) mArgs0)))))
  (sSeq (sSet 5 (mCall m_law_made [] (mArgs (mVar 2) (mArgs (mVar 4) (mArgs (mVar 3) mArgs0)))))
  (sSeq (sSet 6 (mA (newL true) (mArgs (mC (.bl true)) (mArgs (mC (.bl true)) (mArgs (mC (.bl false)) (mArgs (mC (.bl false)) mArgs0))))))
  (sSeq (sIf (mBl (m2 dEq (mVar 2) (mC (.int 0))))
  (sSet 6 (mA (newL true) (mArgs (mC (.bl false)) (mArgs (mC (.bl false)) (mArgs (mC (.bl true)) (mArgs (mC (.bl true)) mArgs0))))))
  sPass)
  (sSeq (sIf (mBl (m2 dEq (mVar 2) (mC (.int 16))))
  (sSet 6 (mA (newL true) (mArgs (mC (.bl false)) (mArgs (mC (.bl false)) (mArgs (mC (.bl false)) (mArgs (mC (.bl true)) mArgs0))))))
  sPass)
  (sSeq (sIf (mOrT (mBl (m2 dNe (mCall m_law_sorts [] (mArgs (mVar 5) mArgs0)) (mLc true (mSrcA fRange1 (mArgs (mC (.int 17)) mArgs0)) (tgN 7) mYes (m2 dEq (mVar 7) (mVar 2)) [7]))) (mBl (m2 dNe (mCall m_law_kinds [] (mArgs (mVar 5) mArgs0)) (mVar 6))))
  (sRet (mC (.bl false)))
  sPass)
  (sIf (mNotT (mTru (mCall m_law_kept [] (mArgs (mVar 2) (mArgs (mVar 5) (mArgs (mVar 4) (mArgs (mVar 3) mArgs0)))))))
  (sRet (mC (.bl false)))
  sPass)))))))))
noncomputable def b_law : SM :=
  (sSeq (sSet 1 (mCall m_law_pool [] (mArgs (mVar 0) (mArgs (mC (.int 0)) mArgs0))))
  (sSeq (sFor (mSrcA fRange1 (mArgs (mC (.int 17)) mArgs0)) (tgN 2)
  b_law_1)
  (sRet (mC (.bl true)))))
noncomputable def m_law : List D → List O → R D := runB 8 b_law
end Lw
end
section
namespace Lw
open PySem PySem.Spec L2 Vi Mb
def topS (i : Nat) : Stmt := PySem.Challenge.pw_eachalone_k04_refusals.main.body.getD i (.Pass ⟨0, 0, 0, 0⟩)
abbrev s_law_pool : Stmt := topS 20
def n_law_pool : List Str := ["_law_script", "_law_k", "_law_cell", "_law_seed"]
theorem sc_law_pool : FnScope n_law_pool ["_law_script", "_law_k"] (defScope s_law_pool) := ⟨rfl, rfl, rfl, by decide +kernel, rfl, by decide +kernel, by decide +kernel⟩
abbrev s_law_take : Stmt := topS 21
def n_law_take : List Str := ["_law_pool_here", "_law_many", "_law_digit"]
theorem sc_law_take : FnScope n_law_take ["_law_pool_here", "_law_many"] (defScope s_law_take) := ⟨rfl, rfl, rfl, by decide +kernel, rfl, by decide +kernel, by decide +kernel⟩
abbrev s_law_made : Stmt := topS 22
def n_law_made : List Str := ["_law_way", "_law_part_here", "_law_value"]
theorem sc_law_made : FnScope n_law_made ["_law_way", "_law_part_here", "_law_value"] (defScope s_law_made) := ⟨rfl, rfl, rfl, by decide +kernel, rfl, by decide +kernel, by decide +kernel⟩
abbrev s_law_part : Stmt := topS 23
def n_law_part : List Str := ["_law_pool_here", "_law_way", "_law_value"]
theorem sc_law_part : FnScope n_law_part ["_law_pool_here", "_law_way", "_law_value"] (defScope s_law_part) := ⟨rfl, rfl, rfl, by decide +kernel, rfl, by decide +kernel, by decide +kernel⟩
abbrev s_law_sorts : Stmt := topS 24
def n_law_sorts : List Str := ["_law_e", "_law_sorts_here"]
theorem sc_law_sorts : FnScope n_law_sorts ["_law_e"] (defScope s_law_sorts) := ⟨rfl, rfl, rfl, by decide +kernel, rfl, by decide +kernel, by decide +kernel⟩
abbrev s_law_kinds : Stmt := topS 25
def n_law_kinds : List Str := ["_law_e", "_law_kinds_here"]
theorem sc_law_kinds : FnScope n_law_kinds ["_law_e"] (defScope s_law_kinds) := ⟨rfl, rfl, rfl, by decide +kernel, rfl, by decide +kernel, by decide +kernel⟩
abbrev s_law_kept : Stmt := topS 26
def n_law_kept : List Str := ["_law_way", "_law_e", "_law_part_here", "_law_value"]
theorem sc_law_kept : FnScope n_law_kept ["_law_way", "_law_e", "_law_part_here", "_law_value"] (defScope s_law_kept) := ⟨rfl, rfl, rfl, by decide +kernel, rfl, by decide +kernel, by decide +kernel⟩
abbrev s_law : Stmt := topS 27
def n_law : List Str := ["_law_script", "_law_pool_here", "_law_way", "_law_value", "_law_part_here", "_law_e", "_law_due", "_law_k"]
theorem sc_law : FnScope n_law ["_law_script"] (defScope s_law) := ⟨rfl, rfl, rfl, by decide +kernel, rfl, by decide +kernel, by decide +kernel⟩
abbrev sx_NoName : Stmt := inClass (topS 2) 0
theorem scx_NoName : FnScope ["self", "name"] ["self", "name"] (defScope sx_NoName) := ⟨rfl, rfl, rfl, by decide +kernel, rfl, by decide +kernel, by decide +kernel⟩
abbrev sx_NoField : Stmt := inClass (topS 3) 0
theorem scx_NoField : FnScope ["self", "part", "place"] ["self", "part", "place"] (defScope sx_NoField) := ⟨rfl, rfl, rfl, by decide +kernel, rfl, by decide +kernel, by decide +kernel⟩
abbrev sx_NoCase : Stmt := inClass (topS 4) 0
theorem scx_NoCase : FnScope ["self", "part", "place"] ["self", "part", "place"] (defScope sx_NoCase) := ⟨rfl, rfl, rfl, by decide +kernel, rfl, by decide +kernel, by decide +kernel⟩
abbrev sx_NoBook : Stmt := inClass (topS 5) 0
theorem scx_NoBook : FnScope ["self", "place"] ["self", "place"] (defScope sx_NoBook) := ⟨rfl, rfl, rfl, by decide +kernel, rfl, by decide +kernel, by decide +kernel⟩
abbrev sx_NoText : Stmt := inClass (topS 6) 0
theorem scx_NoText : FnScope ["self", "at"] ["self", "at"] (defScope sx_NoText) := ⟨rfl, rfl, rfl, by decide +kernel, rfl, by decide +kernel, by decide +kernel⟩
abbrev sx_TooMany : Stmt := inClass (topS 7) 0
theorem scx_TooMany : FnScope ["self", "size"] ["self", "size"] (defScope sx_TooMany) := ⟨rfl, rfl, rfl, by decide +kernel, rfl, by decide +kernel, by decide +kernel⟩
abbrev sx_NotOnce : Stmt := inClass (topS 8) 0
theorem scx_NotOnce : FnScope ["self", "wish"] ["self", "wish"] (defScope sx_NotOnce) := ⟨rfl, rfl, rfl, by decide +kernel, rfl, by decide +kernel, by decide +kernel⟩
abbrev sx_NoProgram : Stmt := inClass (topS 9) 0
theorem scx_NoProgram : FnScope ["self", "part"] ["self", "part"] (defScope sx_NoProgram) := ⟨rfl, rfl, rfl, by decide +kernel, rfl, by decide +kernel, by decide +kernel⟩
structure Ad where
  fx_NoName : Addr
  fdx_NoName : FuncData
  fx_NoField : Addr
  fdx_NoField : FuncData
  fx_NoCase : Addr
  fdx_NoCase : FuncData
  fx_NoBook : Addr
  fdx_NoBook : FuncData
  fx_NoText : Addr
  fdx_NoText : FuncData
  fx_TooMany : Addr
  fdx_TooMany : FuncData
  fx_NotOnce : Addr
  fdx_NotOnce : FuncData
  fx_NoProgram : Addr
  fdx_NoProgram : FuncData
  f_law_pool : Addr
  fd_law_pool : FuncData
  f_law_take : Addr
  fd_law_take : FuncData
  f_law_made : Addr
  fd_law_made : FuncData
  f_law_part : Addr
  fd_law_part : FuncData
  f_law_sorts : Addr
  fd_law_sorts : FuncData
  f_law_kinds : Addr
  fd_law_kinds : FuncData
  f_law_kept : Addr
  fd_law_kept : FuncData
  f_law : Addr
  fd_law : FuncData
structure Tx (K : PySem.W.Frag) (w : World) (mg : Str → Option Value) (c : String → Addr) (a : Ad) : Prop where
  F_law_pool : FunX K "_law_pool" "_law_pool" s_law_pool a.f_law_pool a.fd_law_pool
  b_law_pool : Binds K a.fd_law_pool ["_law_script", "_law_k"] []
  F_law_take : FunX K "_law_take" "_law_take" s_law_take a.f_law_take a.fd_law_take
  b_law_take : Binds K a.fd_law_take ["_law_pool_here", "_law_many"] []
  F_law_made : FunX K "_law_made" "_law_made" s_law_made a.f_law_made a.fd_law_made
  b_law_made : Binds K a.fd_law_made ["_law_way", "_law_part_here", "_law_value"] []
  F_law_part : FunX K "_law_part" "_law_part" s_law_part a.f_law_part a.fd_law_part
  b_law_part : Binds K a.fd_law_part ["_law_pool_here", "_law_way", "_law_value"] []
  F_law_sorts : FunX K "_law_sorts" "_law_sorts" s_law_sorts a.f_law_sorts a.fd_law_sorts
  b_law_sorts : Binds K a.fd_law_sorts ["_law_e"] []
  F_law_kinds : FunX K "_law_kinds" "_law_kinds" s_law_kinds a.f_law_kinds a.fd_law_kinds
  b_law_kinds : Binds K a.fd_law_kinds ["_law_e"] []
  F_law_kept : FunX K "_law_kept" "_law_kept" s_law_kept a.f_law_kept a.fd_law_kept
  b_law_kept : Binds K a.fd_law_kept ["_law_way", "_law_e", "_law_part_here", "_law_value"] []
  F_law : FunX K "law" "law" s_law a.f_law a.fd_law
  b_law : Binds K a.fd_law ["_law_script"] []
  R_NoNumbers : RzX K mg c "NoNumbers" "NoNumbers"
  R_NoWhen : RzX K mg c "NoWhen" "NoWhen"
  R_NoChange : RzX K mg c "NoChange" "NoChange"
  R_NoLine : RzX K mg c "NoLine" "NoLine"
  R_NoKeeper : RzL K mg c "NoKeeper" "NoKeeper"
  R_NoRow : RzX K mg c "NoRow" "NoRow"
  R_NoWish : RzX K mg c "NoWish" "NoWish"
  R_NoLeaf : RzX K mg c "NoLeaf" "NoLeaf"
  R_NoWord : RzX K mg c "NoWord" "NoWord"
  FX_NoName : FunX K "__init__" "NoName.__init__" sx_NoName a.fx_NoName a.fdx_NoName
  XC_NoName : XkC K mg c "NoName" "NoName" a.fx_NoName "name"
  xb_NoName : Binds K a.fdx_NoName ["self", "name"] []
  FX_NoField : FunX K "__init__" "NoField.__init__" sx_NoField a.fx_NoField a.fdx_NoField
  XC_NoField : XcC K mg c "NoField" "NoField" a.fx_NoField ["part", "place"]
  xb_NoField : Binds K a.fdx_NoField ["self", "part", "place"] []
  FX_NoCase : FunX K "__init__" "NoCase.__init__" sx_NoCase a.fx_NoCase a.fdx_NoCase
  XC_NoCase : XcC K mg c "NoCase" "NoCase" a.fx_NoCase ["part", "place"]
  xb_NoCase : Binds K a.fdx_NoCase ["self", "part", "place"] []
  FX_NoBook : FunX K "__init__" "NoBook.__init__" sx_NoBook a.fx_NoBook a.fdx_NoBook
  XC_NoBook : XcC K mg c "NoBook" "NoBook" a.fx_NoBook ["place"]
  xb_NoBook : Binds K a.fdx_NoBook ["self", "place"] []
  FX_NoText : FunX K "__init__" "NoText.__init__" sx_NoText a.fx_NoText a.fdx_NoText
  XC_NoText : XcC K mg c "NoText" "NoText" a.fx_NoText ["at"]
  xb_NoText : Binds K a.fdx_NoText ["self", "at"] []
  FX_TooMany : FunX K "__init__" "TooMany.__init__" sx_TooMany a.fx_TooMany a.fdx_TooMany
  XC_TooMany : XcC K mg c "TooMany" "TooMany" a.fx_TooMany ["size"]
  xb_TooMany : Binds K a.fdx_TooMany ["self", "size"] []
  FX_NotOnce : FunX K "__init__" "NotOnce.__init__" sx_NotOnce a.fx_NotOnce a.fdx_NotOnce
  XC_NotOnce : XcC K mg c "NotOnce" "NotOnce" a.fx_NotOnce ["wish"]
  xb_NotOnce : Binds K a.fdx_NotOnce ["self", "wish"] []
  FX_NoProgram : FunX K "__init__" "NoProgram.__init__" sx_NoProgram a.fx_NoProgram a.fdx_NoProgram
  XC_NoProgram : XcC K mg c "NoProgram" "NoProgram" a.fx_NoProgram ["part"]
  xb_NoProgram : Binds K a.fdx_NoProgram ["self", "part"] []
  IB_AloneError : InitC K (c "AloneError")
  xr_name : ∀ C ∈ ["NoName"], IsC K (c C) ∧ PySem.W.findIn K (.ref (c C)) "name" = some none
  xr_place : ∀ C ∈ ["NoField", "NoCase", "NoBook"], IsC K (c C) ∧ PySem.W.findIn K (.ref (c C)) "place" = some none
  xr_part : ∀ C ∈ ["NoField", "NoCase", "NoProgram"], IsC K (c C) ∧ PySem.W.findIn K (.ref (c C)) "part" = some none
  xr_at : ∀ C ∈ ["NoText"], IsC K (c C) ∧ PySem.W.findIn K (.ref (c C)) "at" = some none
  xr_size : ∀ C ∈ ["TooMany"], IsC K (c C) ∧ PySem.W.findIn K (.ref (c C)) "size" = some none
  xr_wish : ∀ C ∈ ["NotOnce"], IsC K (c C) ∧ PySem.W.findIn K (.ref (c C)) "wish" = some none
  gx_AloneError : mg "AloneError" = some (.ref (c "AloneError"))
  gx_NoName : mg "NoName" = some (.ref (c "NoName"))
  gx_NoField : mg "NoField" = some (.ref (c "NoField"))
  gx_NoCase : mg "NoCase" = some (.ref (c "NoCase"))
  gx_NoBook : mg "NoBook" = some (.ref (c "NoBook"))
  gx_NoText : mg "NoText" = some (.ref (c "NoText"))
  gx_TooMany : mg "TooMany" = some (.ref (c "TooMany"))
  gx_NotOnce : mg "NotOnce" = some (.ref (c "NotOnce"))
  gx_NoProgram : mg "NoProgram" = some (.ref (c "NoProgram"))
  gx_NoRow : mg "NoRow" = some (.ref (c "NoRow"))
  gx_NoWish : mg "NoWish" = some (.ref (c "NoWish"))
  gx_NoLeaf : mg "NoLeaf" = some (.ref (c "NoLeaf"))
  gx_NoWord : mg "NoWord" = some (.ref (c "NoWord"))
  gx_NoNumbers : mg "NoNumbers" = some (.ref (c "NoNumbers"))
  gx_NoWhen : mg "NoWhen" = some (.ref (c "NoWhen"))
  gx_NoChange : mg "NoChange" = some (.ref (c "NoChange"))
  gx_NoLine : mg "NoLine" = some (.ref (c "NoLine"))
  gx_NoKeeper : mg "NoKeeper" = some (.ref (c "NoKeeper"))
  kt_0 : KitT K c [.ref (c "NoBook")] [("NoName", false), ("NoField", false), ("NoCase", false), ("NoBook", true), ("NoText", false), ("TooMany", false), ("NotOnce", false), ("NoProgram", false), ("NoNumbers", false), ("NoWhen", false), ("NoChange", false), ("NoLine", false), ("NoKeeper", false), ("NoRow", false), ("NoWish", false), ("NoLeaf", false), ("NoWord", false)]
  kt_1 : KitT K c [.ref (c "NoCase")] [("NoName", false), ("NoField", false), ("NoCase", true), ("NoBook", false), ("NoText", false), ("TooMany", false), ("NotOnce", false), ("NoProgram", false), ("NoNumbers", false), ("NoWhen", false), ("NoChange", false), ("NoLine", false), ("NoKeeper", false), ("NoRow", false), ("NoWish", false), ("NoLeaf", false), ("NoWord", false)]
  kt_2 : KitT K c [.ref (c "NoField")] [("NoName", false), ("NoField", true), ("NoCase", false), ("NoBook", false), ("NoText", false), ("TooMany", false), ("NotOnce", false), ("NoProgram", false), ("NoNumbers", false), ("NoWhen", false), ("NoChange", false), ("NoLine", false), ("NoKeeper", false), ("NoRow", false), ("NoWish", false), ("NoLeaf", false), ("NoWord", false)]
  kt_3 : KitT K c [.ref (c "NoName")] [("NoName", true), ("NoField", false), ("NoCase", false), ("NoBook", false), ("NoText", false), ("TooMany", false), ("NotOnce", false), ("NoProgram", false), ("NoNumbers", false), ("NoWhen", false), ("NoChange", false), ("NoLine", false), ("NoKeeper", false), ("NoRow", false), ("NoWish", false), ("NoLeaf", false), ("NoWord", false)]
  kt_4 : KitT K c [.ref (c "NoProgram")] [("NoName", false), ("NoField", false), ("NoCase", false), ("NoBook", false), ("NoText", false), ("TooMany", false), ("NotOnce", false), ("NoProgram", true), ("NoNumbers", false), ("NoWhen", false), ("NoChange", false), ("NoLine", false), ("NoKeeper", false), ("NoRow", false), ("NoWish", false), ("NoLeaf", false), ("NoWord", false)]
  kt_5 : KitT K c [.ref (c "NotOnce")] [("NoName", false), ("NoField", false), ("NoCase", false), ("NoBook", false), ("NoText", false), ("TooMany", false), ("NotOnce", true), ("NoProgram", false), ("NoNumbers", false), ("NoWhen", false), ("NoChange", false), ("NoLine", false), ("NoKeeper", false), ("NoRow", false), ("NoWish", false), ("NoLeaf", false), ("NoWord", false)]
  kt_6 : KitT K c [.ref (c "TooMany")] [("NoName", false), ("NoField", false), ("NoCase", false), ("NoBook", false), ("NoText", false), ("TooMany", true), ("NotOnce", false), ("NoProgram", false), ("NoNumbers", false), ("NoWhen", false), ("NoChange", false), ("NoLine", false), ("NoKeeper", false), ("NoRow", false), ("NoWish", false), ("NoLeaf", false), ("NoWord", false)]
  kt_7 : KitT K c [.ref (c "NoText")] [("NoName", false), ("NoField", false), ("NoCase", false), ("NoBook", false), ("NoText", true), ("TooMany", false), ("NotOnce", false), ("NoProgram", false), ("NoNumbers", false), ("NoWhen", false), ("NoChange", false), ("NoLine", false), ("NoKeeper", false), ("NoRow", false), ("NoWish", false), ("NoLeaf", false), ("NoWord", false)]
  kt_8 : KitT K c [.ref (c "NoWord")] [("NoName", false), ("NoField", false), ("NoCase", false), ("NoBook", false), ("NoText", false), ("TooMany", false), ("NotOnce", false), ("NoProgram", false), ("NoNumbers", false), ("NoWhen", false), ("NoChange", false), ("NoLine", false), ("NoKeeper", false), ("NoRow", false), ("NoWish", false), ("NoLeaf", false), ("NoWord", true)]
  kt_9 : KitT K c [.ref (c "NoLeaf")] [("NoName", false), ("NoField", false), ("NoCase", false), ("NoBook", false), ("NoText", false), ("TooMany", false), ("NotOnce", false), ("NoProgram", false), ("NoNumbers", false), ("NoWhen", false), ("NoChange", false), ("NoLine", false), ("NoKeeper", false), ("NoRow", false), ("NoWish", false), ("NoLeaf", true), ("NoWord", false)]
  kt_10 : KitT K c [.ref (c "NoWish")] [("NoName", false), ("NoField", false), ("NoCase", false), ("NoBook", false), ("NoText", false), ("TooMany", false), ("NotOnce", false), ("NoProgram", false), ("NoNumbers", false), ("NoWhen", false), ("NoChange", false), ("NoLine", false), ("NoKeeper", false), ("NoRow", false), ("NoWish", true), ("NoLeaf", false), ("NoWord", false)]
  kt_11 : KitT K c [.ref (c "NoRow")] [("NoName", false), ("NoField", false), ("NoCase", false), ("NoBook", false), ("NoText", false), ("TooMany", false), ("NotOnce", false), ("NoProgram", false), ("NoNumbers", false), ("NoWhen", false), ("NoChange", false), ("NoLine", false), ("NoKeeper", false), ("NoRow", true), ("NoWish", false), ("NoLeaf", false), ("NoWord", false)]
  kt_12 : KitT K c [.ref (c "NoLine")] [("NoName", false), ("NoField", false), ("NoCase", false), ("NoBook", false), ("NoText", false), ("TooMany", false), ("NotOnce", false), ("NoProgram", false), ("NoNumbers", false), ("NoWhen", false), ("NoChange", false), ("NoLine", true), ("NoKeeper", false), ("NoRow", false), ("NoWish", false), ("NoLeaf", false), ("NoWord", false)]
  kt_13 : KitT K c [.ref (c "NoChange")] [("NoName", false), ("NoField", false), ("NoCase", false), ("NoBook", false), ("NoText", false), ("TooMany", false), ("NotOnce", false), ("NoProgram", false), ("NoNumbers", false), ("NoWhen", false), ("NoChange", true), ("NoLine", false), ("NoKeeper", false), ("NoRow", false), ("NoWish", false), ("NoLeaf", false), ("NoWord", false)]
  kt_14 : KitT K c [.ref (c "NoWhen")] [("NoName", false), ("NoField", false), ("NoCase", false), ("NoBook", false), ("NoText", false), ("TooMany", false), ("NotOnce", false), ("NoProgram", false), ("NoNumbers", false), ("NoWhen", true), ("NoChange", false), ("NoLine", false), ("NoKeeper", false), ("NoRow", false), ("NoWish", false), ("NoLeaf", false), ("NoWord", false)]
  kt_15 : KitT K c [.ref (c "NoNumbers")] [("NoName", false), ("NoField", false), ("NoCase", false), ("NoBook", false), ("NoText", false), ("TooMany", false), ("NotOnce", false), ("NoProgram", false), ("NoNumbers", true), ("NoWhen", false), ("NoChange", false), ("NoLine", false), ("NoKeeper", false), ("NoRow", false), ("NoWish", false), ("NoLeaf", false), ("NoWord", false)]
  kt_16 : KitT K c [.ref (c "NoKeeper")] [("NoName", false), ("NoField", false), ("NoCase", false), ("NoBook", false), ("NoText", false), ("TooMany", false), ("NotOnce", false), ("NoProgram", false), ("NoNumbers", false), ("NoWhen", false), ("NoChange", false), ("NoLine", false), ("NoKeeper", true), ("NoRow", false), ("NoWish", false), ("NoLeaf", false), ("NoWord", false)]
  kt_17 : KitT K c [.type "LookupError"] [("NoName", true), ("NoField", false), ("NoCase", false), ("NoBook", false), ("NoText", false), ("TooMany", false), ("NotOnce", false), ("NoProgram", false), ("NoNumbers", false), ("NoWhen", false), ("NoChange", false), ("NoLine", false), ("NoKeeper", true), ("NoRow", false), ("NoWish", false), ("NoLeaf", false), ("NoWord", false)]
  kt_18 : KitT K c [.type "KeyError"] [("NoName", true), ("NoField", false), ("NoCase", false), ("NoBook", false), ("NoText", false), ("TooMany", false), ("NotOnce", false), ("NoProgram", false), ("NoNumbers", false), ("NoWhen", false), ("NoChange", false), ("NoLine", false), ("NoKeeper", false), ("NoRow", false), ("NoWish", false), ("NoLeaf", false), ("NoWord", false)]
  kt_19 : KitT K c [.type "ValueError"] [("NoName", false), ("NoField", true), ("NoCase", true), ("NoBook", true), ("NoText", true), ("TooMany", true), ("NotOnce", true), ("NoProgram", true), ("NoNumbers", true), ("NoWhen", true), ("NoChange", true), ("NoLine", true), ("NoKeeper", false), ("NoRow", true), ("NoWish", true), ("NoLeaf", true), ("NoWord", true)]
  kt_20 : KitT K c [.ref (c "AloneError")] [("NoName", false), ("NoField", true), ("NoCase", true), ("NoBook", true), ("NoText", true), ("TooMany", true), ("NotOnce", true), ("NoProgram", true), ("NoNumbers", true), ("NoWhen", true), ("NoChange", true), ("NoLine", true), ("NoKeeper", false), ("NoRow", true), ("NoWish", true), ("NoLeaf", true), ("NoWord", true)]
  g_law_kept : mg "_law_kept" = some (.ref a.f_law_kept)
  g_law_kinds : mg "_law_kinds" = some (.ref a.f_law_kinds)
  g_law_made : mg "_law_made" = some (.ref a.f_law_made)
  g_law_part : mg "_law_part" = some (.ref a.f_law_part)
  g_law_pool : mg "_law_pool" = some (.ref a.f_law_pool)
  g_law_sorts : mg "_law_sorts" = some (.ref a.f_law_sorts)
  g_law_take : mg "_law_take" = some (.ref a.f_law_take)
  z_KeyError : mg "KeyError" = none
  z_LookupError : mg "LookupError" = none
  z_ValueError : mg "ValueError" = none
  z_int : mg "int" = none
  z_isinstance : mg "isinstance" = none
  z_len : mg "len" = none
  z_range : mg "range" = none
section
variable {P : Program} {w : World} {K : PySem.W.Frag} {mg : Str → Option Value} {base : Heap} {c : String → Addr} {a : Ad}
theorem xi_NoName (T : Tx K w mg c a) : FnOk P w K mg base (L2.CX P w) 1 a.fx_NoName a.fdx_NoName ["self", "name"] (spI (c "NoName") ["name"]) := kinit1 (k := 0) T.FX_NoName T.XC_NoName scx_NoName fun cdv A outer s H E => (pss_cons (ps_expr (pe_keinit (by rfl) T.z_KeyError ke_find (pa_cons (pe_var (i := 0) rfl (by first | exact Or.inl rfl | exact Or.inr (Or.inl rfl) | exact Or.inr (Or.inr rfl))) (pa_cons pe_str pa_nil)))) (pss_one (ps_kst (pe_var (i := 0) rfl (by first | exact Or.inl rfl | exact Or.inr (Or.inl rfl) | exact Or.inr (Or.inr rfl))) (pe_var (i := 1) rfl (by first | exact Or.inl rfl | exact Or.inr (Or.inl rfl) | exact Or.inr (Or.inr rfl))))))
theorem xi_NoField (T : Tx K w mg c a) : FnOk P w K mg base (L2.CX P w) 1 a.fx_NoField a.fdx_NoField ["self", "part", "place"] (spI (c "NoField") ["part", "place"]) := init2 (k := 0) T.FX_NoField T.XC_NoField scx_NoField fun cdv A outer s H E => (pss_cons (ps_expr (pe_clinit T.IB_AloneError (by rfl) T.gx_AloneError (pa_cons (pe_var (i := 0) rfl (by first | exact Or.inl rfl | exact Or.inr (Or.inl rfl) | exact Or.inr (Or.inr rfl))) (pa_cons pe_str pa_nil)))) (pss_cons (ps_ost (pe_var (i := 0) rfl (by first | exact Or.inl rfl | exact Or.inr (Or.inl rfl) | exact Or.inr (Or.inr rfl))) (pe_var (i := 1) rfl (by first | exact Or.inl rfl | exact Or.inr (Or.inl rfl) | exact Or.inr (Or.inr rfl)))) (pss_one (ps_ost (pe_var (i := 0) rfl (by first | exact Or.inl rfl | exact Or.inr (Or.inl rfl) | exact Or.inr (Or.inr rfl))) (pe_var (i := 2) rfl (by first | exact Or.inl rfl | exact Or.inr (Or.inl rfl) | exact Or.inr (Or.inr rfl)))))))
theorem xi_NoCase (T : Tx K w mg c a) : FnOk P w K mg base (L2.CX P w) 1 a.fx_NoCase a.fdx_NoCase ["self", "part", "place"] (spI (c "NoCase") ["part", "place"]) := init2 (k := 0) T.FX_NoCase T.XC_NoCase scx_NoCase fun cdv A outer s H E => (pss_cons (ps_expr (pe_clinit T.IB_AloneError (by rfl) T.gx_AloneError (pa_cons (pe_var (i := 0) rfl (by first | exact Or.inl rfl | exact Or.inr (Or.inl rfl) | exact Or.inr (Or.inr rfl))) (pa_cons pe_str pa_nil)))) (pss_cons (ps_ost (pe_var (i := 0) rfl (by first | exact Or.inl rfl | exact Or.inr (Or.inl rfl) | exact Or.inr (Or.inr rfl))) (pe_var (i := 1) rfl (by first | exact Or.inl rfl | exact Or.inr (Or.inl rfl) | exact Or.inr (Or.inr rfl)))) (pss_one (ps_ost (pe_var (i := 0) rfl (by first | exact Or.inl rfl | exact Or.inr (Or.inl rfl) | exact Or.inr (Or.inr rfl))) (pe_var (i := 2) rfl (by first | exact Or.inl rfl | exact Or.inr (Or.inl rfl) | exact Or.inr (Or.inr rfl)))))))
theorem xi_NoBook (T : Tx K w mg c a) : FnOk P w K mg base (L2.CX P w) 1 a.fx_NoBook a.fdx_NoBook ["self", "place"] (spI (c "NoBook") ["place"]) := init1 (k := 0) T.FX_NoBook T.XC_NoBook scx_NoBook fun cdv A outer s H E => (pss_cons (ps_expr (pe_clinit T.IB_AloneError (by rfl) T.gx_AloneError (pa_cons (pe_var (i := 0) rfl (by first | exact Or.inl rfl | exact Or.inr (Or.inl rfl) | exact Or.inr (Or.inr rfl))) (pa_cons pe_str pa_nil)))) (pss_one (ps_ost (pe_var (i := 0) rfl (by first | exact Or.inl rfl | exact Or.inr (Or.inl rfl) | exact Or.inr (Or.inr rfl))) (pe_var (i := 1) rfl (by first | exact Or.inl rfl | exact Or.inr (Or.inl rfl) | exact Or.inr (Or.inr rfl))))))
theorem xi_NoText (T : Tx K w mg c a) : FnOk P w K mg base (L2.CX P w) 1 a.fx_NoText a.fdx_NoText ["self", "at"] (spI (c "NoText") ["at"]) := init1 (k := 0) T.FX_NoText T.XC_NoText scx_NoText fun cdv A outer s H E => (pss_cons (ps_expr (pe_clinit T.IB_AloneError (by rfl) T.gx_AloneError (pa_cons (pe_var (i := 0) rfl (by first | exact Or.inl rfl | exact Or.inr (Or.inl rfl) | exact Or.inr (Or.inr rfl))) (pa_cons pe_str pa_nil)))) (pss_one (ps_ost (pe_var (i := 0) rfl (by first | exact Or.inl rfl | exact Or.inr (Or.inl rfl) | exact Or.inr (Or.inr rfl))) (pe_var (i := 1) rfl (by first | exact Or.inl rfl | exact Or.inr (Or.inl rfl) | exact Or.inr (Or.inr rfl))))))
theorem xi_TooMany (T : Tx K w mg c a) : FnOk P w K mg base (L2.CX P w) 1 a.fx_TooMany a.fdx_TooMany ["self", "size"] (spI (c "TooMany") ["size"]) := init1 (k := 0) T.FX_TooMany T.XC_TooMany scx_TooMany fun cdv A outer s H E => (pss_cons (ps_expr (pe_clinit T.IB_AloneError (by rfl) T.gx_AloneError (pa_cons (pe_var (i := 0) rfl (by first | exact Or.inl rfl | exact Or.inr (Or.inl rfl) | exact Or.inr (Or.inr rfl))) (pa_cons pe_str pa_nil)))) (pss_one (ps_ost (pe_var (i := 0) rfl (by first | exact Or.inl rfl | exact Or.inr (Or.inl rfl) | exact Or.inr (Or.inr rfl))) (pe_var (i := 1) rfl (by first | exact Or.inl rfl | exact Or.inr (Or.inl rfl) | exact Or.inr (Or.inr rfl))))))
theorem xi_NotOnce (T : Tx K w mg c a) : FnOk P w K mg base (L2.CX P w) 1 a.fx_NotOnce a.fdx_NotOnce ["self", "wish"] (spI (c "NotOnce") ["wish"]) := init1 (k := 0) T.FX_NotOnce T.XC_NotOnce scx_NotOnce fun cdv A outer s H E => (pss_cons (ps_expr (pe_clinit T.IB_AloneError (by rfl) T.gx_AloneError (pa_cons (pe_var (i := 0) rfl (by first | exact Or.inl rfl | exact Or.inr (Or.inl rfl) | exact Or.inr (Or.inr rfl))) (pa_cons pe_str pa_nil)))) (pss_one (ps_ost (pe_var (i := 0) rfl (by first | exact Or.inl rfl | exact Or.inr (Or.inl rfl) | exact Or.inr (Or.inr rfl))) (pe_var (i := 1) rfl (by first | exact Or.inl rfl | exact Or.inr (Or.inl rfl) | exact Or.inr (Or.inr rfl))))))
theorem xi_NoProgram (T : Tx K w mg c a) : FnOk P w K mg base (L2.CX P w) 1 a.fx_NoProgram a.fdx_NoProgram ["self", "part"] (spI (c "NoProgram") ["part"]) := init1 (k := 0) T.FX_NoProgram T.XC_NoProgram scx_NoProgram fun cdv A outer s H E => (pss_cons (ps_expr (pe_clinit T.IB_AloneError (by rfl) T.gx_AloneError (pa_cons (pe_var (i := 0) rfl (by first | exact Or.inl rfl | exact Or.inr (Or.inl rfl) | exact Or.inr (Or.inr rfl))) (pa_cons pe_str pa_nil)))) (pss_one (ps_ost (pe_var (i := 0) rfl (by first | exact Or.inl rfl | exact Or.inr (Or.inl rfl) | exact Or.inr (Or.inr rfl))) (pe_var (i := 1) rfl (by first | exact Or.inl rfl | exact Or.inr (Or.inl rfl) | exact Or.inr (Or.inr rfl))))))
theorem ok_law_pool (T : Tx K w mg c a) : FnG P w K mg base 1 a.f_law_pool a.fd_law_pool ["_law_script", "_law_k"] (spG ⟨K, c, w⟩ 2 m_law_pool) := by
  refine fnG_run (k := 0) T.F_law_pool sc_law_pool rfl fun X EX hX tk => ?_
  obtain ⟨cdv, A, outer, s, H, E, rfl, hr, rfl⟩ := hX
  exact (ss_cons (ss_set (i := 2) sc_law_pool.nd rfl (by first | exact Or.inl rfl | exact Or.inr rfl) se_int)
  (ss_cons (ss_if (st_cmp (op_neS hr.room.units) os_ne (se_var 0) (se_lst (fz := true) sa_nil))
  (ss_one (ss_set (i := 2) sc_law_pool.nd rfl (by first | exact Or.inl rfl | exact Or.inr rfl) (se_ix (se_var 0) (se_op op_mod os_mod (se_var 1) (se_callB call_len cs_len (by rfl) T.z_len bt_len (sa_cons (se_var 0) sa_nil))))))
  ss_nil)
  (ss_cons (ss_if (st_cmp op_ge os_ge (se_var 1) (se_callB call_len cs_len (by rfl) T.z_len bt_len (sa_cons (se_var 0) sa_nil)))
  (ss_one (ss_set (i := 2) sc_law_pool.nd rfl (by first | exact Or.inl rfl | exact Or.inr rfl) (se_ix (se_lst (fz := true) (sa_cons (se_op op_mod os_mod (se_var 2) se_int) (sa_cons (se_op op_fdivW os_fdiv (se_var 2) (se_op op_pow os_pow se_int se_int)) sa_nil))) (se_callTy call_int1 cs_int (by rfl) T.z_int bt_int (sa_cons (se_cmp op_ge os_ge (se_var 2) (se_op op_pow os_pow se_int se_int)) sa_nil)))))
  ss_nil)
  (ss_cons (ss_set (i := 3) sc_law_pool.nd rfl (by first | exact Or.inl rfl | exact Or.inr rfl) (se_op op_mod os_mod (se_op op_mul os_mul (se_op op_addD (os_add (fz := true)) (se_op op_addD (os_add (fz := true)) (se_op op_mod os_mod (se_var 2) se_int) (se_op op_mul os_mul se_int (se_var 1))) se_int) se_int) se_int))
  (ss_one (ss_ret (se_lst (fz := false) (sa_cons (se_op op_mul os_mul (se_var 2) (se_callTy call_int1 cs_int (by rfl) T.z_int bt_int (sa_cons (se_cmp op_ge os_ge (se_var 2) (se_op op_pow os_pow se_int se_int)) sa_nil))) (sa_cons (se_var 3) sa_nil)))))))))
theorem ok_law_take (T : Tx K w mg c a) : FnG P w K mg base 1 a.f_law_take a.fd_law_take ["_law_pool_here", "_law_many"] (spG ⟨K, c, w⟩ 2 m_law_take) := by
  refine fnG_run (k := 0) T.F_law_take sc_law_take rfl fun X EX hX tk => ?_
  obtain ⟨cdv, A, outer, s, H, E, rfl, hr, rfl⟩ := hX
  exact (ss_cons (ss_if (st_cmp op_gt os_gt (se_ix (se_var 0) se_int) se_int)
  (ss_cons (ss_set (i := 2) sc_law_take.nd rfl (by first | exact Or.inl rfl | exact Or.inr rfl) (se_op op_mod os_mod (se_ix (se_var 0) se_int) (se_var 1)))
  (ss_cons (ss_asg (vs := []) (se_op op_fdivW os_fdiv (se_ix (se_var 0) se_int) (se_var 1)) (sg_sub (se_var 0) se_int))
  (ss_one (ss_ret (se_var 2)))))
  ss_nil)
  (ss_cons (ss_asg (vs := []) (se_op op_mod os_mod (se_op op_addD (os_add (fz := true)) (se_op op_mul os_mul (se_ix (se_var 0) se_int) se_int) se_int) se_int) (sg_sub (se_var 0) se_int))
  (ss_one (ss_ret (se_op op_mod os_mod (se_op op_fdivW os_fdiv (se_op op_mod os_mod (se_op op_mul os_mul (se_ix (se_var 0) se_int) (se_ix (se_var 0) se_int)) se_int) se_int) (se_var 1))))))
theorem ok_law_made (T : Tx K w mg c a) : FnG P w K mg base 3 a.f_law_made a.fd_law_made ["_law_way", "_law_part_here", "_law_value"] (spG ⟨K, c, w⟩ 3 m_law_made) := by
  refine fnG_run (k := 2) T.F_law_made sc_law_made rfl fun X EX hX tk => ?_
  obtain ⟨cdv, A, outer, s, H, E, rfl, hr, rfl⟩ := hX
  exact (ss_cons (ss_if (st_cmp (op_eqS hr.room.units) os_eq (se_var 0) se_int)
  (ss_one (ss_ret (se_mkK T.XC_NoName (xi_NoName T) (hr.mono (by first | decide | omega)) T.xb_NoName (by rfl) (sa_cons se_str sa_nil))))
  ss_nil)
  (ss_cons (ss_if (st_cmp (op_eqS hr.room.units) os_eq (se_var 0) se_int)
  (ss_one (ss_ret (se_mkX T.XC_NoField (xi_NoField T) (hr.mono (by first | decide | omega)) T.xb_NoField (by decide) (by decide) (by rfl) (sa_cons (se_var 1) (sa_cons (se_var 2) sa_nil)))))
  ss_nil)
  (ss_cons (ss_if (st_cmp (op_eqS hr.room.units) os_eq (se_var 0) se_int)
  (ss_one (ss_ret (se_mkX T.XC_NoCase (xi_NoCase T) (hr.mono (by first | decide | omega)) T.xb_NoCase (by decide) (by decide) (by rfl) (sa_cons (se_var 1) (sa_cons (se_var 2) sa_nil)))))
  ss_nil)
  (ss_cons (ss_if (st_cmp (op_eqS hr.room.units) os_eq (se_var 0) se_int)
  (ss_one (ss_ret (se_mkX T.XC_NoBook (xi_NoBook T) (hr.mono (by first | decide | omega)) T.xb_NoBook (by decide) (by decide) (by rfl) (sa_cons (se_var 2) sa_nil))))
  ss_nil)
  (ss_cons (ss_if (st_cmp (op_eqS hr.room.units) os_eq (se_var 0) se_int)
  (ss_one (ss_ret (se_mkX T.XC_NoText (xi_NoText T) (hr.mono (by first | decide | omega)) T.xb_NoText (by decide) (by decide) (by rfl) (sa_cons (se_var 2) sa_nil))))
  ss_nil)
  (ss_cons (ss_if (st_cmp (op_eqS hr.room.units) os_eq (se_var 0) se_int)
  (ss_one (ss_ret (se_mkX T.XC_TooMany (xi_TooMany T) (hr.mono (by first | decide | omega)) T.xb_TooMany (by decide) (by decide) (by rfl) (sa_cons (se_var 2) sa_nil))))
  ss_nil)
  (ss_cons (ss_if (st_cmp (op_eqS hr.room.units) os_eq (se_var 0) se_int)
  (ss_one (ss_ret (se_mkX T.XC_NotOnce (xi_NotOnce T) (hr.mono (by first | decide | omega)) T.xb_NotOnce (by decide) (by decide) (by rfl) (sa_cons (se_var 2) sa_nil))))
  ss_nil)
  (ss_cons (ss_if (st_cmp (op_eqS hr.room.units) os_eq (se_var 0) se_int)
  (ss_one (ss_ret (se_mkX T.XC_NoProgram (xi_NoProgram T) (hr.mono (by first | decide | omega)) T.xb_NoProgram (by decide) (by decide) (by rfl) (sa_cons (se_var 1) sa_nil))))
  ss_nil)
  (ss_cons (ss_if (st_cmp op_lt os_lt (se_var 0) se_int)
  (ss_one (ss_ret (se_ix (se_lst (fz := true) (sa_cons (se_mkT T.R_NoRow (by rfl)) (sa_cons (se_mkT T.R_NoWish (by rfl)) (sa_cons (se_mkT T.R_NoLeaf (by rfl)) (sa_cons (se_mkT T.R_NoWord (by rfl)) sa_nil))))) (se_op op_sub os_sub (se_var 0) se_int))))
  ss_nil)
  (ss_one (ss_ret (se_ix (se_lst (fz := true) (sa_cons (se_mkT T.R_NoNumbers (by rfl)) (sa_cons (se_mkT T.R_NoWhen (by rfl)) (sa_cons (se_mkT T.R_NoChange (by rfl)) (sa_cons (se_mkT T.R_NoLine (by rfl)) (sa_cons (se_mkL T.R_NoKeeper (by rfl)) sa_nil)))))) (se_op op_sub os_sub (se_var 0) se_int)))))))))))))
theorem ok_law_part (T : Tx K w mg c a) : FnG P w K mg base 2 a.f_law_part a.fd_law_part ["_law_pool_here", "_law_way", "_law_value"] (spG ⟨K, c, w⟩ 3 m_law_part) := by
  refine fnG_run (k := 1) T.F_law_part sc_law_part rfl fun X EX hX tk => ?_
  obtain ⟨cdv, A, outer, s, H, E, rfl, hr, rfl⟩ := hX
  exact (ss_cons (ss_if (st_cmp (op_eqS hr.room.units) os_eq (se_var 1) se_int)
  (ss_one (ss_ret (se_ix (se_lst (fz := true) (sa_cons se_str (sa_cons se_str sa_nil))) (se_call ((ok_law_take T).mono (by decide)) hr (by rfl) T.g_law_take T.F_law_take.kp T.b_law_take .nil (fun _ _ => .nil) rfl tk (sa_cons (se_var 0) (sa_cons se_int sa_nil)) (mArgs_len (mArgs_len (fun _ _ _ _ h => mArgs0_len h)))))))
  ss_nil)
  (ss_cons (ss_if (st_cmp (op_eqS hr.room.units) os_eq (se_var 1) se_int)
  (ss_one (ss_ret (se_ix (se_lst (fz := true) (sa_cons se_str (sa_cons (se_ix (se_lst (fz := true) (sa_cons se_str (sa_cons se_str (sa_cons se_str sa_nil)))) (se_call ((ok_law_take T).mono (by decide)) hr (by rfl) T.g_law_take T.F_law_take.kp T.b_law_take .nil (fun _ _ => .nil) rfl tk (sa_cons (se_var 0) (sa_cons se_int sa_nil)) (mArgs_len (mArgs_len (fun _ _ _ _ h => mArgs0_len h))))) sa_nil))) (se_callTy call_int1 cs_int (by rfl) T.z_int bt_int (sa_cons (se_cmp op_isX os_is (se_var 2) se_non) sa_nil)))))
  ss_nil)
  (ss_one (ss_ret (se_ix (se_lst (fz := true) (sa_cons se_str (sa_cons se_str sa_nil))) (se_call ((ok_law_take T).mono (by decide)) hr (by rfl) T.g_law_take T.F_law_take.kp T.b_law_take .nil (fun _ _ => .nil) rfl tk (sa_cons (se_var 0) (sa_cons se_int sa_nil)) (mArgs_len (mArgs_len (fun _ _ _ _ h => mArgs0_len h)))))))))
theorem ok_law_sorts (T : Tx K w mg c a) : FnG P w K mg base 1 a.f_law_sorts a.fd_law_sorts ["_law_e"] (spG ⟨K, c, w⟩ 1 m_law_sorts) := by
  refine fnG_run (k := 0) T.F_law_sorts sc_law_sorts rfl fun X EX hX tk => ?_
  obtain ⟨cdv, A, outer, s, H, E, rfl, hr, rfl⟩ := hX
  exact (ss_cons (ss_set (i := 1) sc_law_sorts.nd rfl (by first | exact Or.inl rfl | exact Or.inr rfl) (se_lst (fz := true) (sa_cons (se_isX1 T.kt_3 (by rfl) T.z_isinstance (se_var 0) (pe_clsN (by rfl) T.gx_NoName) rel_ref) (sa_cons (se_isX1 T.kt_2 (by rfl) T.z_isinstance (se_var 0) (pe_clsN (by rfl) T.gx_NoField) rel_ref) (sa_cons (se_isX1 T.kt_1 (by rfl) T.z_isinstance (se_var 0) (pe_clsN (by rfl) T.gx_NoCase) rel_ref) (sa_cons (se_isX1 T.kt_0 (by rfl) T.z_isinstance (se_var 0) (pe_clsN (by rfl) T.gx_NoBook) rel_ref) sa_nil))))))
  (ss_cons (ss_set (i := 1) sc_law_sorts.nd rfl (by first | exact Or.inl rfl | exact Or.inr rfl) (se_op op_addD (os_add (fz := true)) (se_var 1) (se_lst (fz := true) (sa_cons (se_isX1 T.kt_7 (by rfl) T.z_isinstance (se_var 0) (pe_clsN (by rfl) T.gx_NoText) rel_ref) (sa_cons (se_isX1 T.kt_6 (by rfl) T.z_isinstance (se_var 0) (pe_clsN (by rfl) T.gx_TooMany) rel_ref) (sa_cons (se_isX1 T.kt_5 (by rfl) T.z_isinstance (se_var 0) (pe_clsN (by rfl) T.gx_NotOnce) rel_ref) (sa_cons (se_isX1 T.kt_4 (by rfl) T.z_isinstance (se_var 0) (pe_clsN (by rfl) T.gx_NoProgram) rel_ref) sa_nil)))))))
  (ss_cons (ss_set (i := 1) sc_law_sorts.nd rfl (by first | exact Or.inl rfl | exact Or.inr rfl) (se_op op_addD (os_add (fz := true)) (se_var 1) (se_lst (fz := true) (sa_cons (se_isX1 T.kt_11 (by rfl) T.z_isinstance (se_var 0) (pe_clsN (by rfl) T.gx_NoRow) rel_ref) (sa_cons (se_isX1 T.kt_10 (by rfl) T.z_isinstance (se_var 0) (pe_clsN (by rfl) T.gx_NoWish) rel_ref) (sa_cons (se_isX1 T.kt_9 (by rfl) T.z_isinstance (se_var 0) (pe_clsN (by rfl) T.gx_NoLeaf) rel_ref) (sa_cons (se_isX1 T.kt_8 (by rfl) T.z_isinstance (se_var 0) (pe_clsN (by rfl) T.gx_NoWord) rel_ref) sa_nil)))))))
  (ss_cons (ss_set (i := 1) sc_law_sorts.nd rfl (by first | exact Or.inl rfl | exact Or.inr rfl) (se_op op_addD (os_add (fz := true)) (se_var 1) (se_lst (fz := true) (sa_cons (se_isX1 T.kt_15 (by rfl) T.z_isinstance (se_var 0) (pe_clsN (by rfl) T.gx_NoNumbers) rel_ref) (sa_cons (se_isX1 T.kt_14 (by rfl) T.z_isinstance (se_var 0) (pe_clsN (by rfl) T.gx_NoWhen) rel_ref) (sa_cons (se_isX1 T.kt_13 (by rfl) T.z_isinstance (se_var 0) (pe_clsN (by rfl) T.gx_NoChange) rel_ref) (sa_cons (se_isX1 T.kt_12 (by rfl) T.z_isinstance (se_var 0) (pe_clsN (by rfl) T.gx_NoLine) rel_ref) sa_nil)))))))
  (ss_one (ss_ret (se_op op_addD (os_add (fz := true)) (se_var 1) (se_lst (fz := true) (sa_cons (se_isX1 T.kt_16 (by rfl) T.z_isinstance (se_var 0) (pe_clsN (by rfl) T.gx_NoKeeper) rel_ref) sa_nil)))))))))
theorem ok_law_kinds (T : Tx K w mg c a) : FnG P w K mg base 1 a.f_law_kinds a.fd_law_kinds ["_law_e"] (spG ⟨K, c, w⟩ 1 m_law_kinds) := by
  refine fnG_run (k := 0) T.F_law_kinds sc_law_kinds rfl fun X EX hX tk => ?_
  obtain ⟨cdv, A, outer, s, H, E, rfl, hr, rfl⟩ := hX
  exact (ss_cons (ss_set (i := 1) sc_law_kinds.nd rfl (by first | exact Or.inl rfl | exact Or.inr rfl) (se_lst (fz := true) (sa_cons (se_isX1 T.kt_20 (by rfl) T.z_isinstance (se_var 0) (pe_clsN (by rfl) T.gx_AloneError) rel_ref) (sa_cons (se_isX1 T.kt_19 (by rfl) T.z_isinstance (se_var 0) (pe_bltn (v := .ty "ValueError") (by rfl) T.z_ValueError bt_ValueError rfl) rel_ty) (sa_cons (se_isX1 T.kt_18 (by rfl) T.z_isinstance (se_var 0) (pe_bltn (v := .ty "KeyError") (by rfl) T.z_KeyError bt_KeyError rfl) rel_ty) (sa_cons (se_isX1 T.kt_17 (by rfl) T.z_isinstance (se_var 0) (pe_bltn (v := .ty "LookupError") (by rfl) T.z_LookupError bt_LookupError rfl) rel_ty) sa_nil))))))
  (ss_one (ss_ret (se_var 1))))
theorem ok_law_kept (T : Tx K w mg c a) : FnG P w K mg base 1 a.f_law_kept a.fd_law_kept ["_law_way", "_law_e", "_law_part_here", "_law_value"] (spG ⟨K, c, w⟩ 4 m_law_kept) := by
  refine fnG_run (k := 0) T.F_law_kept sc_law_kept rfl fun X EX hX tk => ?_
  obtain ⟨cdv, A, outer, s, H, E, rfl, hr, rfl⟩ := hX
  exact (ss_cons (ss_if (st_cmp (op_eqS hr.room.units) os_eq (se_var 0) se_int)
  (ss_one (ss_ret (se_cmp (op_eqS hr.room.units) os_eq (se_xf (se_var 1) T.xr_name) se_str)))
  ss_nil)
  (ss_cons (ss_if (st_cmp op_inX os_in (se_var 0) (se_lst (fz := true) (sa_cons se_int (sa_cons se_int sa_nil))))
  (ss_one (ss_ret (se_cmp (op_eqS hr.room.units) os_eq (se_lst (fz := true) (sa_cons (se_xf (se_var 1) T.xr_part) (sa_cons (se_xf (se_var 1) T.xr_place) sa_nil))) (se_lst (fz := true) (sa_cons (se_var 2) (sa_cons (se_var 3) sa_nil))))))
  ss_nil)
  (ss_cons (ss_if (st_cmp (op_eqS hr.room.units) os_eq (se_var 0) se_int)
  (ss_one (ss_ret (se_cmp (op_eqS hr.room.units) os_eq (se_xf (se_var 1) T.xr_place) (se_var 3))))
  ss_nil)
  (ss_cons (ss_if (st_cmp (op_eqS hr.room.units) os_eq (se_var 0) se_int)
  (ss_one (ss_ret (se_cmp (op_eqS hr.room.units) os_eq (se_xf (se_var 1) T.xr_at) (se_var 3))))
  ss_nil)
  (ss_cons (ss_if (st_cmp (op_eqS hr.room.units) os_eq (se_var 0) se_int)
  (ss_one (ss_ret (se_cmp (op_eqS hr.room.units) os_eq (se_xf (se_var 1) T.xr_size) (se_var 3))))
  ss_nil)
  (ss_cons (ss_if (st_cmp (op_eqS hr.room.units) os_eq (se_var 0) se_int)
  (ss_one (ss_ret (se_cmp (op_eqS hr.room.units) os_eq (se_xf (se_var 1) T.xr_wish) (se_var 3))))
  ss_nil)
  (ss_one (ss_ret (se_or (se_cmp (op_neS hr.room.units) os_ne (se_var 0) se_int) (se_one (se_cmp (op_eqS hr.room.units) os_eq (se_xf (se_var 1) T.xr_part) (se_var 2))))))))))))
theorem ok_law (T : Tx K w mg c a) : FnG P w K mg base 4 a.f_law a.fd_law ["_law_script"] (spG ⟨K, c, w⟩ 1 m_law) := by
  refine fnG_run (k := 3) T.F_law sc_law rfl fun X EX hX tk => ?_
  obtain ⟨cdv, A, outer, s, H, E, rfl, hr, rfl⟩ := hX
  exact (ss_cons (ss_set (i := 1) sc_law.nd rfl (by first | exact Or.inl rfl | exact Or.inr rfl) (se_call ((ok_law_pool T).mono (by decide)) hr (by rfl) T.g_law_pool T.F_law_pool.kp T.b_law_pool .nil (fun _ _ => .nil) rfl tk (sa_cons (se_var 0) (sa_cons se_int sa_nil)) (mArgs_len (mArgs_len (fun _ _ _ _ h => mArgs0_len h)))))
  (ss_cons (ss_for (vs := [2]) (passes_of rfl) rfl (si_range1 (by rfl) T.z_range (sa_cons se_int sa_nil)) (sg_name (vs := [2]) (i := 2) sc_law.nd rfl (by first | exact Or.inl rfl | exact Or.inr rfl))
  (ss_cons (ss_set (i := 3) sc_law.nd rfl (by first | exact Or.inl rfl | exact Or.inr rfl) (se_ix (se_lst (fz := true) (sa_cons se_non (sa_cons se_int (sa_cons (se_op op_addD (os_add (fz := true)) se_int (se_call ((ok_law_take T).mono (by decide)) hr (by rfl) T.g_law_take T.F_law_take.kp T.b_law_take .nil (fun _ _ => .nil) rfl tk (sa_cons (se_var 1) (sa_cons (se_ix (se_lst (fz := true) (sa_cons se_int (sa_cons se_int sa_nil))) (se_callTy call_int1 cs_int (by rfl) T.z_int bt_int (sa_cons (se_cmp (op_eqS hr.room.units) os_eq (se_var 2) se_int) sa_nil))) sa_nil)) (mArgs_len (mArgs_len (fun _ _ _ _ h => mArgs0_len h))))) sa_nil)))) (se_call ((ok_law_take T).mono (by decide)) hr (by rfl) T.g_law_take T.F_law_take.kp T.b_law_take .nil (fun _ _ => .nil) rfl tk (sa_cons (se_var 1) (sa_cons se_int sa_nil)) (mArgs_len (mArgs_len (fun _ _ _ _ h => mArgs0_len h))))))
  (ss_cons (ss_if (PW.pt (sw_or (PW.pt (sw_and (st_cmp (op_eqS hr.room.units) os_eq (se_var 2) se_int) (sw_and1 (st_cmp op_isX os_is (se_var 3) se_non)))) (sw_or1 (PW.pt (sw_and (st_cmp (op_eqS hr.room.units) os_eq (se_var 2) se_int) (sw_and1 (st_cmp op_lt os_lt (se_var 3) se_int)))))))
  (ss_one (ss_set (i := 3) sc_law.nd rfl (by first | exact Or.inl rfl | exact Or.inr rfl) (se_ix (se_lst (fz := true) (sa_cons se_int (sa_cons se_int (sa_cons se_int (sa_cons se_int (sa_cons se_int sa_nil)))))) (se_call ((ok_law_take T).mono (by decide)) hr (by rfl) T.g_law_take T.F_law_take.kp T.b_law_take .nil (fun _ _ => .nil) rfl tk (sa_cons (se_var 1) (sa_cons se_int sa_nil)) (mArgs_len (mArgs_len (fun _ _ _ _ h => mArgs0_len h)))))))
  ss_nil)
  (ss_cons (ss_set (i := 4) sc_law.nd rfl (by first | exact Or.inl rfl | exact Or.inr rfl) (se_call ((ok_law_part T).mono (by decide)) hr (by rfl) T.g_law_part T.F_law_part.kp T.b_law_part .nil (fun _ _ => .nil) rfl tk (sa_cons (se_var 1) (sa_cons (se_var 2) (sa_cons (se_var 3) sa_nil))) (mArgs_len (mArgs_len (mArgs_len (fun _ _ _ _ h => mArgs0_len h))))))
  (ss_cons (ss_set (i := 5) sc_law.nd rfl (by first | exact Or.inl rfl | exact Or.inr rfl) (se_call ((ok_law_made T).mono (by decide)) hr (by rfl) T.g_law_made T.F_law_made.kp T.b_law_made .nil (fun _ _ => .nil) rfl tk (sa_cons (se_var 2) (sa_cons (se_var 4) (sa_cons (se_var 3) sa_nil))) (mArgs_len (mArgs_len (mArgs_len (fun _ _ _ _ h => mArgs0_len h))))))
  (ss_cons (ss_set (i := 6) sc_law.nd rfl (by first | exact Or.inl rfl | exact Or.inr rfl) (se_lst (fz := true) (sa_cons se_bl (sa_cons se_bl (sa_cons se_bl (sa_cons se_bl sa_nil))))))
  (ss_cons (ss_if (st_cmp (op_eqS hr.room.units) os_eq (se_var 2) se_int)
  (ss_one (ss_set (i := 6) sc_law.nd rfl (by first | exact Or.inl rfl | exact Or.inr rfl) (se_lst (fz := true) (sa_cons se_bl (sa_cons se_bl (sa_cons se_bl (sa_cons se_bl sa_nil)))))))
  ss_nil)
  (ss_cons (ss_if (st_cmp (op_eqS hr.room.units) os_eq (se_var 2) se_int)
  (ss_one (ss_set (i := 6) sc_law.nd rfl (by first | exact Or.inl rfl | exact Or.inr rfl) (se_lst (fz := true) (sa_cons se_bl (sa_cons se_bl (sa_cons se_bl (sa_cons se_bl sa_nil)))))))
  ss_nil)
  (ss_cons (ss_if (PW.pt (sw_or (st_cmp (op_neS hr.room.units) os_ne (se_call ((ok_law_sorts T).mono (by decide)) hr (by rfl) T.g_law_sorts T.F_law_sorts.kp T.b_law_sorts .nil (fun _ _ => .nil) rfl tk (sa_cons (se_var 5) sa_nil) (mArgs_len (fun _ _ _ _ h => mArgs0_len h))) (se_lc (own := [("_law_k", 7)]) (fz := true) rfl sc_law.nd (si_range1 (by rfl) T.z_range (sa_cons se_int sa_nil)) (by refine blkOk_by ?_; show blkC n_law (defScope s_law) _ _ = true; decide +kernel) (fun _ _ _ _ _ => (sg_name (vs := [7]) (i := 7) sc_law.nd rfl (by first | exact Or.inl rfl | exact Or.inr rfl))) (fun _ _ _ _ _ => sts_nil) (fun _ _ _ _ _ => (se_cmp (op_eqS hr.room.units) os_eq (se_var 7) (se_var 2))))) (sw_or1 (st_cmp (op_neS hr.room.units) os_ne (se_call ((ok_law_kinds T).mono (by decide)) hr (by rfl) T.g_law_kinds T.F_law_kinds.kp T.b_law_kinds .nil (fun _ _ => .nil) rfl tk (sa_cons (se_var 5) sa_nil) (mArgs_len (fun _ _ _ _ h => mArgs0_len h))) (se_var 6)))))
  (ss_one (ss_ret se_bl))
  ss_nil)
  (ss_one (ss_if (st_not (st_val (se_call ((ok_law_kept T).mono (by decide)) hr (by rfl) T.g_law_kept T.F_law_kept.kp T.b_law_kept .nil (fun _ _ => .nil) rfl tk (sa_cons (se_var 2) (sa_cons (se_var 5) (sa_cons (se_var 4) (sa_cons (se_var 3) sa_nil)))) (mArgs_len (mArgs_len (mArgs_len (mArgs_len (fun _ _ _ _ h => mArgs0_len h))))))))
  (ss_one (ss_ret se_bl))
  ss_nil)))))))))))
  (ss_one (ss_ret se_bl))))
end
theorem all_mk {l : PySem.W.OpenLaw} {w : World} {K : PySem.W.Frag} {h : Heap} {mg : Str → Option Value} {fa : Addr} (X : K.In h) (G : h.Ns mainGlobals mg) (hfa : mg "law" = some (.ref fa))
    {X0 : Addr}
    {X1 : Addr}
    {fx1 : Addr} {odx1 anx1 : Option Addr} {slx1 : Array (Option Value)} {ocx1 kVx1 dcx1 pmx1 cdx1 ctx1 : Value} {nmx1 qx1 : Str} {Nx1 : Addr} {bsx1 : List Value} {snx1 : List Str} {subx1 : List Value} {abx1 : Bool} {colx1 : Option Bool} {ddx1 : Option Addr} {m0x1 m1x1 m2x1 m3x1 m5x1 : Option Value}
    {X2 : Addr}
    {fx2 : Addr} {odx2 anx2 : Option Addr} {slx2 : Array (Option Value)} {ocx2 kVx2 dcx2 pmx2 cdx2 ctx2 : Value} {nmx2 qx2 : Str} {Nx2 : Addr} {bsx2 : List Value} {snx2 : List Str} {subx2 : List Value} {abx2 : Bool} {colx2 : Option Bool} {ddx2 : Option Addr} {m0x2 m1x2 m2x2 m3x2 m5x2 : Option Value}
    {X3 : Addr}
    {fx3 : Addr} {odx3 anx3 : Option Addr} {slx3 : Array (Option Value)} {ocx3 kVx3 dcx3 pmx3 cdx3 ctx3 : Value} {nmx3 qx3 : Str} {Nx3 : Addr} {bsx3 : List Value} {snx3 : List Str} {subx3 : List Value} {abx3 : Bool} {colx3 : Option Bool} {ddx3 : Option Addr} {m0x3 m1x3 m2x3 m3x3 m5x3 : Option Value}
    {X4 : Addr}
    {fx4 : Addr} {odx4 anx4 : Option Addr} {slx4 : Array (Option Value)} {ocx4 kVx4 dcx4 pmx4 cdx4 ctx4 : Value} {nmx4 qx4 : Str} {Nx4 : Addr} {bsx4 : List Value} {snx4 : List Str} {subx4 : List Value} {abx4 : Bool} {colx4 : Option Bool} {ddx4 : Option Addr} {m0x4 m1x4 m2x4 m3x4 m5x4 : Option Value}
    {X5 : Addr}
    {fx5 : Addr} {odx5 anx5 : Option Addr} {slx5 : Array (Option Value)} {ocx5 kVx5 dcx5 pmx5 cdx5 ctx5 : Value} {nmx5 qx5 : Str} {Nx5 : Addr} {bsx5 : List Value} {snx5 : List Str} {subx5 : List Value} {abx5 : Bool} {colx5 : Option Bool} {ddx5 : Option Addr} {m0x5 m1x5 m2x5 m3x5 m5x5 : Option Value}
    {X6 : Addr}
    {fx6 : Addr} {odx6 anx6 : Option Addr} {slx6 : Array (Option Value)} {ocx6 kVx6 dcx6 pmx6 cdx6 ctx6 : Value} {nmx6 qx6 : Str} {Nx6 : Addr} {bsx6 : List Value} {snx6 : List Str} {subx6 : List Value} {abx6 : Bool} {colx6 : Option Bool} {ddx6 : Option Addr} {m0x6 m1x6 m2x6 m3x6 m5x6 : Option Value}
    {X7 : Addr}
    {fx7 : Addr} {odx7 anx7 : Option Addr} {slx7 : Array (Option Value)} {ocx7 kVx7 dcx7 pmx7 cdx7 ctx7 : Value} {nmx7 qx7 : Str} {Nx7 : Addr} {bsx7 : List Value} {snx7 : List Str} {subx7 : List Value} {abx7 : Bool} {colx7 : Option Bool} {ddx7 : Option Addr} {m0x7 m1x7 m2x7 m3x7 m5x7 : Option Value}
    {X8 : Addr}
    {fx8 : Addr} {odx8 anx8 : Option Addr} {slx8 : Array (Option Value)} {ocx8 kVx8 dcx8 pmx8 cdx8 ctx8 : Value} {nmx8 qx8 : Str} {Nx8 : Addr} {bsx8 : List Value} {snx8 : List Str} {subx8 : List Value} {abx8 : Bool} {colx8 : Option Bool} {ddx8 : Option Addr} {m0x8 m1x8 m2x8 m3x8 m5x8 : Option Value}
    {X9 : Addr}
    {X10 : Addr}
    {X11 : Addr}
    {X12 : Addr}
    {X13 : Addr}
    {X14 : Addr}
    {X15 : Addr}
    {X16 : Addr}
    {X17 : Addr}
    {f0 : Addr} {od0 an0 : Option Addr} {sl0 : Array (Option Value)} {oc0 kV0 dc0 pm0 cd0 ct0 : Value}
    {f1 : Addr} {od1 an1 : Option Addr} {sl1 : Array (Option Value)} {oc1 kV1 dc1 pm1 cd1 ct1 : Value}
    {f2 : Addr} {od2 an2 : Option Addr} {sl2 : Array (Option Value)} {oc2 kV2 dc2 pm2 cd2 ct2 : Value}
    {f3 : Addr} {od3 an3 : Option Addr} {sl3 : Array (Option Value)} {oc3 kV3 dc3 pm3 cd3 ct3 : Value}
    {f4 : Addr} {od4 an4 : Option Addr} {sl4 : Array (Option Value)} {oc4 kV4 dc4 pm4 cd4 ct4 : Value}
    {f5 : Addr} {od5 an5 : Option Addr} {sl5 : Array (Option Value)} {oc5 kV5 dc5 pm5 cd5 ct5 : Value}
    {f6 : Addr} {od6 an6 : Option Addr} {sl6 : Array (Option Value)} {oc6 kV6 dc6 pm6 cd6 ct6 : Value}
    {f7 : Addr} {od7 an7 : Option Addr} {sl7 : Array (Option Value)} {oc7 kV7 dc7 pm7 cd7 ct7 : Value}
    (xspec : PySem.W.specialIn K (.builtin "object.__class__") "__get__" = some (some (.builtin "getset_descriptor.__get__")))
    (xtake : PySem.W.takesIn K (.builtin "object.__class__") = some true)
    (xa0 : PySem.W.nsIn K mainGlobals "AloneError" = some (some (.ref X0)))
    (xs0 : PySem.W.subIn K (.ref X0) (.type "BaseException") = some true)
    (xt0 : PySem.W.typeIn K (.ref X0) = some (.type "type"))
    (xq0 : PySem.W.specialIn K (.ref X0) "__getattribute__" = some (some (.builtin "type.__getattribute__")))
    (xr0 : PySem.W.readsIn K X0 (.type "type") = true)
    (xv0 : PySem.W.findCls K (.ref X0) (.type "type") "__init__" = some (.val (.builtin "ValueError.__init__")))
    (xg0 : PySem.W.findIn K (.ref X0) "__getattribute__" = some (some (.builtin "BaseException.__getattribute__")))
    (xh0 : PySem.W.findIn K (.ref X0) "__getattr__" = some none)
    (xd0 : PySem.W.hasDictIn K X0 = true)
    (xc0 : PySem.W.findIn K (.ref X0) "__class__" = some (some (.builtin "object.__class__")))
    (xm0 : PySem.W.mroIn K X0 (.type "object") = some true)
    (xa1 : PySem.W.nsIn K mainGlobals "NoName" = some (some (.ref X1)))
    (xs1 : PySem.W.subIn K (.ref X1) (.type "BaseException") = some true)
    (xt1 : PySem.W.typeIn K (.ref X1) = some (.type "type"))
    (xl1 : K.lookup X1 = some (keObj nmx1 qx1 X1 Nx1 bsx1 true snx1 subx1 abx1 colx1 ddx1 m0x1 m1x1 m2x1 m3x1 m5x1))
    (xsa1 : PySem.W.findIn K (.ref X1) "__setattr__" = some (some (.builtin "object.__setattr__")))
    (xk1 : PySem.W.keepIn K (.ref X1) = true)
    (xi1 : PySem.W.findIn K (.ref X1) "__init__" = some (some (.ref fx1)))
    (xti1 : PySem.W.typeIn K (.ref fx1) = some (.type "function"))
    (xlf1 : K.lookup fx1 = some ⟨ocx1, odx1, .func (PySem.W.fnOf "__init__" "NoName.__init__" (defArgs sx_NoName) (defBody sx_NoName) (defScope sx_NoName) .none kVx1 dcx1 pmx1 anx1 cdx1 ctx1), slx1⟩)
    (xcf1 : PySem.W.codeIn K cdx1 "NoName.__init__" = true)
    (xkf1 : PySem.W.keepIn K (.ref fx1) = true)
    (xnf1_0 : PySem.W.findIn K (.ref X1) "name" = some none)
    (xg1 : PySem.W.findIn K (.ref X1) "__getattribute__" = some (some (.builtin "BaseException.__getattribute__")))
    (xh1 : PySem.W.findIn K (.ref X1) "__getattr__" = some none)
    (xd1 : PySem.W.hasDictIn K X1 = true)
    (xc1 : PySem.W.findIn K (.ref X1) "__class__" = some (some (.builtin "object.__class__")))
    (xm1 : PySem.W.mroIn K X1 (.type "object") = some true)
    (xa2 : PySem.W.nsIn K mainGlobals "NoField" = some (some (.ref X2)))
    (xs2 : PySem.W.subIn K (.ref X2) (.type "BaseException") = some true)
    (xt2 : PySem.W.typeIn K (.ref X2) = some (.type "type"))
    (xl2 : K.lookup X2 = some (excClassObj nmx2 qx2 X2 Nx2 bsx2 [.ref X0, .type "ValueError", .type "Exception", .type "BaseException", .type "object"] true snx2 subx2 abx2 colx2 ddx2 m0x2 m1x2 m2x2 m3x2 m5x2 "ValueError.__new__"))
    (xsa2 : PySem.W.findIn K (.ref X2) "__setattr__" = some (some (.builtin "object.__setattr__")))
    (xk2 : PySem.W.keepIn K (.ref X2) = true)
    (xi2 : PySem.W.findIn K (.ref X2) "__init__" = some (some (.ref fx2)))
    (xti2 : PySem.W.typeIn K (.ref fx2) = some (.type "function"))
    (xlf2 : K.lookup fx2 = some ⟨ocx2, odx2, .func (PySem.W.fnOf "__init__" "NoField.__init__" (defArgs sx_NoField) (defBody sx_NoField) (defScope sx_NoField) .none kVx2 dcx2 pmx2 anx2 cdx2 ctx2), slx2⟩)
    (xcf2 : PySem.W.codeIn K cdx2 "NoField.__init__" = true)
    (xkf2 : PySem.W.keepIn K (.ref fx2) = true)
    (xnf2_0 : PySem.W.findIn K (.ref X2) "part" = some none)
    (xnf2_1 : PySem.W.findIn K (.ref X2) "place" = some none)
    (xg2 : PySem.W.findIn K (.ref X2) "__getattribute__" = some (some (.builtin "BaseException.__getattribute__")))
    (xh2 : PySem.W.findIn K (.ref X2) "__getattr__" = some none)
    (xd2 : PySem.W.hasDictIn K X2 = true)
    (xc2 : PySem.W.findIn K (.ref X2) "__class__" = some (some (.builtin "object.__class__")))
    (xm2 : PySem.W.mroIn K X2 (.type "object") = some true)
    (xa3 : PySem.W.nsIn K mainGlobals "NoCase" = some (some (.ref X3)))
    (xs3 : PySem.W.subIn K (.ref X3) (.type "BaseException") = some true)
    (xt3 : PySem.W.typeIn K (.ref X3) = some (.type "type"))
    (xl3 : K.lookup X3 = some (excClassObj nmx3 qx3 X3 Nx3 bsx3 [.ref X0, .type "ValueError", .type "Exception", .type "BaseException", .type "object"] true snx3 subx3 abx3 colx3 ddx3 m0x3 m1x3 m2x3 m3x3 m5x3 "ValueError.__new__"))
    (xsa3 : PySem.W.findIn K (.ref X3) "__setattr__" = some (some (.builtin "object.__setattr__")))
    (xk3 : PySem.W.keepIn K (.ref X3) = true)
    (xi3 : PySem.W.findIn K (.ref X3) "__init__" = some (some (.ref fx3)))
    (xti3 : PySem.W.typeIn K (.ref fx3) = some (.type "function"))
    (xlf3 : K.lookup fx3 = some ⟨ocx3, odx3, .func (PySem.W.fnOf "__init__" "NoCase.__init__" (defArgs sx_NoCase) (defBody sx_NoCase) (defScope sx_NoCase) .none kVx3 dcx3 pmx3 anx3 cdx3 ctx3), slx3⟩)
    (xcf3 : PySem.W.codeIn K cdx3 "NoCase.__init__" = true)
    (xkf3 : PySem.W.keepIn K (.ref fx3) = true)
    (xnf3_0 : PySem.W.findIn K (.ref X3) "part" = some none)
    (xnf3_1 : PySem.W.findIn K (.ref X3) "place" = some none)
    (xg3 : PySem.W.findIn K (.ref X3) "__getattribute__" = some (some (.builtin "BaseException.__getattribute__")))
    (xh3 : PySem.W.findIn K (.ref X3) "__getattr__" = some none)
    (xd3 : PySem.W.hasDictIn K X3 = true)
    (xc3 : PySem.W.findIn K (.ref X3) "__class__" = some (some (.builtin "object.__class__")))
    (xm3 : PySem.W.mroIn K X3 (.type "object") = some true)
    (xa4 : PySem.W.nsIn K mainGlobals "NoBook" = some (some (.ref X4)))
    (xs4 : PySem.W.subIn K (.ref X4) (.type "BaseException") = some true)
    (xt4 : PySem.W.typeIn K (.ref X4) = some (.type "type"))
    (xl4 : K.lookup X4 = some (excClassObj nmx4 qx4 X4 Nx4 bsx4 [.ref X0, .type "ValueError", .type "Exception", .type "BaseException", .type "object"] true snx4 subx4 abx4 colx4 ddx4 m0x4 m1x4 m2x4 m3x4 m5x4 "ValueError.__new__"))
    (xsa4 : PySem.W.findIn K (.ref X4) "__setattr__" = some (some (.builtin "object.__setattr__")))
    (xk4 : PySem.W.keepIn K (.ref X4) = true)
    (xi4 : PySem.W.findIn K (.ref X4) "__init__" = some (some (.ref fx4)))
    (xti4 : PySem.W.typeIn K (.ref fx4) = some (.type "function"))
    (xlf4 : K.lookup fx4 = some ⟨ocx4, odx4, .func (PySem.W.fnOf "__init__" "NoBook.__init__" (defArgs sx_NoBook) (defBody sx_NoBook) (defScope sx_NoBook) .none kVx4 dcx4 pmx4 anx4 cdx4 ctx4), slx4⟩)
    (xcf4 : PySem.W.codeIn K cdx4 "NoBook.__init__" = true)
    (xkf4 : PySem.W.keepIn K (.ref fx4) = true)
    (xnf4_0 : PySem.W.findIn K (.ref X4) "place" = some none)
    (xg4 : PySem.W.findIn K (.ref X4) "__getattribute__" = some (some (.builtin "BaseException.__getattribute__")))
    (xh4 : PySem.W.findIn K (.ref X4) "__getattr__" = some none)
    (xd4 : PySem.W.hasDictIn K X4 = true)
    (xc4 : PySem.W.findIn K (.ref X4) "__class__" = some (some (.builtin "object.__class__")))
    (xm4 : PySem.W.mroIn K X4 (.type "object") = some true)
    (xa5 : PySem.W.nsIn K mainGlobals "NoText" = some (some (.ref X5)))
    (xs5 : PySem.W.subIn K (.ref X5) (.type "BaseException") = some true)
    (xt5 : PySem.W.typeIn K (.ref X5) = some (.type "type"))
    (xl5 : K.lookup X5 = some (excClassObj nmx5 qx5 X5 Nx5 bsx5 [.ref X0, .type "ValueError", .type "Exception", .type "BaseException", .type "object"] true snx5 subx5 abx5 colx5 ddx5 m0x5 m1x5 m2x5 m3x5 m5x5 "ValueError.__new__"))
    (xsa5 : PySem.W.findIn K (.ref X5) "__setattr__" = some (some (.builtin "object.__setattr__")))
    (xk5 : PySem.W.keepIn K (.ref X5) = true)
    (xi5 : PySem.W.findIn K (.ref X5) "__init__" = some (some (.ref fx5)))
    (xti5 : PySem.W.typeIn K (.ref fx5) = some (.type "function"))
    (xlf5 : K.lookup fx5 = some ⟨ocx5, odx5, .func (PySem.W.fnOf "__init__" "NoText.__init__" (defArgs sx_NoText) (defBody sx_NoText) (defScope sx_NoText) .none kVx5 dcx5 pmx5 anx5 cdx5 ctx5), slx5⟩)
    (xcf5 : PySem.W.codeIn K cdx5 "NoText.__init__" = true)
    (xkf5 : PySem.W.keepIn K (.ref fx5) = true)
    (xnf5_0 : PySem.W.findIn K (.ref X5) "at" = some none)
    (xg5 : PySem.W.findIn K (.ref X5) "__getattribute__" = some (some (.builtin "BaseException.__getattribute__")))
    (xh5 : PySem.W.findIn K (.ref X5) "__getattr__" = some none)
    (xd5 : PySem.W.hasDictIn K X5 = true)
    (xc5 : PySem.W.findIn K (.ref X5) "__class__" = some (some (.builtin "object.__class__")))
    (xm5 : PySem.W.mroIn K X5 (.type "object") = some true)
    (xa6 : PySem.W.nsIn K mainGlobals "TooMany" = some (some (.ref X6)))
    (xs6 : PySem.W.subIn K (.ref X6) (.type "BaseException") = some true)
    (xt6 : PySem.W.typeIn K (.ref X6) = some (.type "type"))
    (xl6 : K.lookup X6 = some (excClassObj nmx6 qx6 X6 Nx6 bsx6 [.ref X0, .type "ValueError", .type "Exception", .type "BaseException", .type "object"] true snx6 subx6 abx6 colx6 ddx6 m0x6 m1x6 m2x6 m3x6 m5x6 "ValueError.__new__"))
    (xsa6 : PySem.W.findIn K (.ref X6) "__setattr__" = some (some (.builtin "object.__setattr__")))
    (xk6 : PySem.W.keepIn K (.ref X6) = true)
    (xi6 : PySem.W.findIn K (.ref X6) "__init__" = some (some (.ref fx6)))
    (xti6 : PySem.W.typeIn K (.ref fx6) = some (.type "function"))
    (xlf6 : K.lookup fx6 = some ⟨ocx6, odx6, .func (PySem.W.fnOf "__init__" "TooMany.__init__" (defArgs sx_TooMany) (defBody sx_TooMany) (defScope sx_TooMany) .none kVx6 dcx6 pmx6 anx6 cdx6 ctx6), slx6⟩)
    (xcf6 : PySem.W.codeIn K cdx6 "TooMany.__init__" = true)
    (xkf6 : PySem.W.keepIn K (.ref fx6) = true)
    (xnf6_0 : PySem.W.findIn K (.ref X6) "size" = some none)
    (xg6 : PySem.W.findIn K (.ref X6) "__getattribute__" = some (some (.builtin "BaseException.__getattribute__")))
    (xh6 : PySem.W.findIn K (.ref X6) "__getattr__" = some none)
    (xd6 : PySem.W.hasDictIn K X6 = true)
    (xc6 : PySem.W.findIn K (.ref X6) "__class__" = some (some (.builtin "object.__class__")))
    (xm6 : PySem.W.mroIn K X6 (.type "object") = some true)
    (xa7 : PySem.W.nsIn K mainGlobals "NotOnce" = some (some (.ref X7)))
    (xs7 : PySem.W.subIn K (.ref X7) (.type "BaseException") = some true)
    (xt7 : PySem.W.typeIn K (.ref X7) = some (.type "type"))
    (xl7 : K.lookup X7 = some (excClassObj nmx7 qx7 X7 Nx7 bsx7 [.ref X0, .type "ValueError", .type "Exception", .type "BaseException", .type "object"] true snx7 subx7 abx7 colx7 ddx7 m0x7 m1x7 m2x7 m3x7 m5x7 "ValueError.__new__"))
    (xsa7 : PySem.W.findIn K (.ref X7) "__setattr__" = some (some (.builtin "object.__setattr__")))
    (xk7 : PySem.W.keepIn K (.ref X7) = true)
    (xi7 : PySem.W.findIn K (.ref X7) "__init__" = some (some (.ref fx7)))
    (xti7 : PySem.W.typeIn K (.ref fx7) = some (.type "function"))
    (xlf7 : K.lookup fx7 = some ⟨ocx7, odx7, .func (PySem.W.fnOf "__init__" "NotOnce.__init__" (defArgs sx_NotOnce) (defBody sx_NotOnce) (defScope sx_NotOnce) .none kVx7 dcx7 pmx7 anx7 cdx7 ctx7), slx7⟩)
    (xcf7 : PySem.W.codeIn K cdx7 "NotOnce.__init__" = true)
    (xkf7 : PySem.W.keepIn K (.ref fx7) = true)
    (xnf7_0 : PySem.W.findIn K (.ref X7) "wish" = some none)
    (xg7 : PySem.W.findIn K (.ref X7) "__getattribute__" = some (some (.builtin "BaseException.__getattribute__")))
    (xh7 : PySem.W.findIn K (.ref X7) "__getattr__" = some none)
    (xd7 : PySem.W.hasDictIn K X7 = true)
    (xc7 : PySem.W.findIn K (.ref X7) "__class__" = some (some (.builtin "object.__class__")))
    (xm7 : PySem.W.mroIn K X7 (.type "object") = some true)
    (xa8 : PySem.W.nsIn K mainGlobals "NoProgram" = some (some (.ref X8)))
    (xs8 : PySem.W.subIn K (.ref X8) (.type "BaseException") = some true)
    (xt8 : PySem.W.typeIn K (.ref X8) = some (.type "type"))
    (xl8 : K.lookup X8 = some (excClassObj nmx8 qx8 X8 Nx8 bsx8 [.ref X0, .type "ValueError", .type "Exception", .type "BaseException", .type "object"] true snx8 subx8 abx8 colx8 ddx8 m0x8 m1x8 m2x8 m3x8 m5x8 "ValueError.__new__"))
    (xsa8 : PySem.W.findIn K (.ref X8) "__setattr__" = some (some (.builtin "object.__setattr__")))
    (xk8 : PySem.W.keepIn K (.ref X8) = true)
    (xi8 : PySem.W.findIn K (.ref X8) "__init__" = some (some (.ref fx8)))
    (xti8 : PySem.W.typeIn K (.ref fx8) = some (.type "function"))
    (xlf8 : K.lookup fx8 = some ⟨ocx8, odx8, .func (PySem.W.fnOf "__init__" "NoProgram.__init__" (defArgs sx_NoProgram) (defBody sx_NoProgram) (defScope sx_NoProgram) .none kVx8 dcx8 pmx8 anx8 cdx8 ctx8), slx8⟩)
    (xcf8 : PySem.W.codeIn K cdx8 "NoProgram.__init__" = true)
    (xkf8 : PySem.W.keepIn K (.ref fx8) = true)
    (xnf8_0 : PySem.W.findIn K (.ref X8) "part" = some none)
    (xg8 : PySem.W.findIn K (.ref X8) "__getattribute__" = some (some (.builtin "BaseException.__getattribute__")))
    (xh8 : PySem.W.findIn K (.ref X8) "__getattr__" = some none)
    (xd8 : PySem.W.hasDictIn K X8 = true)
    (xc8 : PySem.W.findIn K (.ref X8) "__class__" = some (some (.builtin "object.__class__")))
    (xm8 : PySem.W.mroIn K X8 (.type "object") = some true)
    (xa9 : PySem.W.nsIn K mainGlobals "NoRow" = some (some (.ref X9)))
    (xs9 : PySem.W.subIn K (.ref X9) (.type "BaseException") = some true)
    (xt9 : PySem.W.typeIn K (.ref X9) = some (.type "type"))
    (xe9 : PySem.W.excIn K X9 [.type "ValueError", .type "Exception", .type "BaseException", .type "object"] "ValueError.__new__" = true)
    (xk9 : PySem.W.keepIn K (.ref X9) = true)
    (xg9 : PySem.W.findIn K (.ref X9) "__getattribute__" = some (some (.builtin "BaseException.__getattribute__")))
    (xh9 : PySem.W.findIn K (.ref X9) "__getattr__" = some none)
    (xd9 : PySem.W.hasDictIn K X9 = true)
    (xc9 : PySem.W.findIn K (.ref X9) "__class__" = some (some (.builtin "object.__class__")))
    (xm9 : PySem.W.mroIn K X9 (.type "object") = some true)
    (xa10 : PySem.W.nsIn K mainGlobals "NoWish" = some (some (.ref X10)))
    (xs10 : PySem.W.subIn K (.ref X10) (.type "BaseException") = some true)
    (xt10 : PySem.W.typeIn K (.ref X10) = some (.type "type"))
    (xe10 : PySem.W.excIn K X10 [.type "ValueError", .type "Exception", .type "BaseException", .type "object"] "ValueError.__new__" = true)
    (xk10 : PySem.W.keepIn K (.ref X10) = true)
    (xg10 : PySem.W.findIn K (.ref X10) "__getattribute__" = some (some (.builtin "BaseException.__getattribute__")))
    (xh10 : PySem.W.findIn K (.ref X10) "__getattr__" = some none)
    (xd10 : PySem.W.hasDictIn K X10 = true)
    (xc10 : PySem.W.findIn K (.ref X10) "__class__" = some (some (.builtin "object.__class__")))
    (xm10 : PySem.W.mroIn K X10 (.type "object") = some true)
    (xa11 : PySem.W.nsIn K mainGlobals "NoLeaf" = some (some (.ref X11)))
    (xs11 : PySem.W.subIn K (.ref X11) (.type "BaseException") = some true)
    (xt11 : PySem.W.typeIn K (.ref X11) = some (.type "type"))
    (xe11 : PySem.W.excIn K X11 [.type "ValueError", .type "Exception", .type "BaseException", .type "object"] "ValueError.__new__" = true)
    (xk11 : PySem.W.keepIn K (.ref X11) = true)
    (xg11 : PySem.W.findIn K (.ref X11) "__getattribute__" = some (some (.builtin "BaseException.__getattribute__")))
    (xh11 : PySem.W.findIn K (.ref X11) "__getattr__" = some none)
    (xd11 : PySem.W.hasDictIn K X11 = true)
    (xc11 : PySem.W.findIn K (.ref X11) "__class__" = some (some (.builtin "object.__class__")))
    (xm11 : PySem.W.mroIn K X11 (.type "object") = some true)
    (xa12 : PySem.W.nsIn K mainGlobals "NoWord" = some (some (.ref X12)))
    (xs12 : PySem.W.subIn K (.ref X12) (.type "BaseException") = some true)
    (xt12 : PySem.W.typeIn K (.ref X12) = some (.type "type"))
    (xe12 : PySem.W.excIn K X12 [.type "ValueError", .type "Exception", .type "BaseException", .type "object"] "ValueError.__new__" = true)
    (xk12 : PySem.W.keepIn K (.ref X12) = true)
    (xg12 : PySem.W.findIn K (.ref X12) "__getattribute__" = some (some (.builtin "BaseException.__getattribute__")))
    (xh12 : PySem.W.findIn K (.ref X12) "__getattr__" = some none)
    (xd12 : PySem.W.hasDictIn K X12 = true)
    (xc12 : PySem.W.findIn K (.ref X12) "__class__" = some (some (.builtin "object.__class__")))
    (xm12 : PySem.W.mroIn K X12 (.type "object") = some true)
    (xa13 : PySem.W.nsIn K mainGlobals "NoNumbers" = some (some (.ref X13)))
    (xs13 : PySem.W.subIn K (.ref X13) (.type "BaseException") = some true)
    (xt13 : PySem.W.typeIn K (.ref X13) = some (.type "type"))
    (xe13 : PySem.W.excIn K X13 [.type "ValueError", .type "Exception", .type "BaseException", .type "object"] "ValueError.__new__" = true)
    (xk13 : PySem.W.keepIn K (.ref X13) = true)
    (xg13 : PySem.W.findIn K (.ref X13) "__getattribute__" = some (some (.builtin "BaseException.__getattribute__")))
    (xh13 : PySem.W.findIn K (.ref X13) "__getattr__" = some none)
    (xd13 : PySem.W.hasDictIn K X13 = true)
    (xc13 : PySem.W.findIn K (.ref X13) "__class__" = some (some (.builtin "object.__class__")))
    (xm13 : PySem.W.mroIn K X13 (.type "object") = some true)
    (xa14 : PySem.W.nsIn K mainGlobals "NoWhen" = some (some (.ref X14)))
    (xs14 : PySem.W.subIn K (.ref X14) (.type "BaseException") = some true)
    (xt14 : PySem.W.typeIn K (.ref X14) = some (.type "type"))
    (xe14 : PySem.W.excIn K X14 [.type "ValueError", .type "Exception", .type "BaseException", .type "object"] "ValueError.__new__" = true)
    (xk14 : PySem.W.keepIn K (.ref X14) = true)
    (xg14 : PySem.W.findIn K (.ref X14) "__getattribute__" = some (some (.builtin "BaseException.__getattribute__")))
    (xh14 : PySem.W.findIn K (.ref X14) "__getattr__" = some none)
    (xd14 : PySem.W.hasDictIn K X14 = true)
    (xc14 : PySem.W.findIn K (.ref X14) "__class__" = some (some (.builtin "object.__class__")))
    (xm14 : PySem.W.mroIn K X14 (.type "object") = some true)
    (xa15 : PySem.W.nsIn K mainGlobals "NoChange" = some (some (.ref X15)))
    (xs15 : PySem.W.subIn K (.ref X15) (.type "BaseException") = some true)
    (xt15 : PySem.W.typeIn K (.ref X15) = some (.type "type"))
    (xe15 : PySem.W.excIn K X15 [.type "ValueError", .type "Exception", .type "BaseException", .type "object"] "ValueError.__new__" = true)
    (xk15 : PySem.W.keepIn K (.ref X15) = true)
    (xg15 : PySem.W.findIn K (.ref X15) "__getattribute__" = some (some (.builtin "BaseException.__getattribute__")))
    (xh15 : PySem.W.findIn K (.ref X15) "__getattr__" = some none)
    (xd15 : PySem.W.hasDictIn K X15 = true)
    (xc15 : PySem.W.findIn K (.ref X15) "__class__" = some (some (.builtin "object.__class__")))
    (xm15 : PySem.W.mroIn K X15 (.type "object") = some true)
    (xa16 : PySem.W.nsIn K mainGlobals "NoLine" = some (some (.ref X16)))
    (xs16 : PySem.W.subIn K (.ref X16) (.type "BaseException") = some true)
    (xt16 : PySem.W.typeIn K (.ref X16) = some (.type "type"))
    (xe16 : PySem.W.excIn K X16 [.type "ValueError", .type "Exception", .type "BaseException", .type "object"] "ValueError.__new__" = true)
    (xk16 : PySem.W.keepIn K (.ref X16) = true)
    (xg16 : PySem.W.findIn K (.ref X16) "__getattribute__" = some (some (.builtin "BaseException.__getattribute__")))
    (xh16 : PySem.W.findIn K (.ref X16) "__getattr__" = some none)
    (xd16 : PySem.W.hasDictIn K X16 = true)
    (xc16 : PySem.W.findIn K (.ref X16) "__class__" = some (some (.builtin "object.__class__")))
    (xm16 : PySem.W.mroIn K X16 (.type "object") = some true)
    (xa17 : PySem.W.nsIn K mainGlobals "NoKeeper" = some (some (.ref X17)))
    (xs17 : PySem.W.subIn K (.ref X17) (.type "BaseException") = some true)
    (xt17 : PySem.W.typeIn K (.ref X17) = some (.type "type"))
    (xe17 : PySem.W.excIn K X17 [.type "LookupError", .type "Exception", .type "BaseException", .type "object"] "LookupError.__new__" = true)
    (xk17 : PySem.W.keepIn K (.ref X17) = true)
    (xg17 : PySem.W.findIn K (.ref X17) "__getattribute__" = some (some (.builtin "BaseException.__getattribute__")))
    (xh17 : PySem.W.findIn K (.ref X17) "__getattr__" = some none)
    (xd17 : PySem.W.hasDictIn K X17 = true)
    (xc17 : PySem.W.findIn K (.ref X17) "__class__" = some (some (.builtin "object.__class__")))
    (xm17 : PySem.W.mroIn K X17 (.type "object") = some true)
    (x0_1 : PySem.W.subIn K (.ref X1) (.ref X1) = some true)
    (xp1_0 : PySem.W.subIn K (.ref X1) (.ref X0) = some false)
    (xp1_2 : PySem.W.subIn K (.ref X1) (.ref X2) = some false)
    (xp1_3 : PySem.W.subIn K (.ref X1) (.ref X3) = some false)
    (xp1_4 : PySem.W.subIn K (.ref X1) (.ref X4) = some false)
    (xp1_5 : PySem.W.subIn K (.ref X1) (.ref X5) = some false)
    (xp1_6 : PySem.W.subIn K (.ref X1) (.ref X6) = some false)
    (xp1_7 : PySem.W.subIn K (.ref X1) (.ref X7) = some false)
    (xp1_8 : PySem.W.subIn K (.ref X1) (.ref X8) = some false)
    (xp1_9 : PySem.W.subIn K (.ref X1) (.ref X9) = some false)
    (xp1_10 : PySem.W.subIn K (.ref X1) (.ref X10) = some false)
    (xp1_11 : PySem.W.subIn K (.ref X1) (.ref X11) = some false)
    (xp1_12 : PySem.W.subIn K (.ref X1) (.ref X12) = some false)
    (xp1_13 : PySem.W.subIn K (.ref X1) (.ref X13) = some false)
    (xp1_14 : PySem.W.subIn K (.ref X1) (.ref X14) = some false)
    (xp1_15 : PySem.W.subIn K (.ref X1) (.ref X15) = some false)
    (xp1_16 : PySem.W.subIn K (.ref X1) (.ref X16) = some false)
    (xp1_17 : PySem.W.subIn K (.ref X1) (.ref X17) = some false)
    (xb1_KeyError : PySem.W.subIn K (.ref X1) (.type "KeyError") = some true)
    (xb1_LookupError : PySem.W.subIn K (.ref X1) (.type "LookupError") = some true)
    (xb1_ValueError : PySem.W.subIn K (.ref X1) (.type "ValueError") = some false)
    (x0_2 : PySem.W.subIn K (.ref X2) (.ref X2) = some true)
    (xp2_0 : PySem.W.subIn K (.ref X2) (.ref X0) = some true)
    (xp2_1 : PySem.W.subIn K (.ref X2) (.ref X1) = some false)
    (xp2_3 : PySem.W.subIn K (.ref X2) (.ref X3) = some false)
    (xp2_4 : PySem.W.subIn K (.ref X2) (.ref X4) = some false)
    (xp2_5 : PySem.W.subIn K (.ref X2) (.ref X5) = some false)
    (xp2_6 : PySem.W.subIn K (.ref X2) (.ref X6) = some false)
    (xp2_7 : PySem.W.subIn K (.ref X2) (.ref X7) = some false)
    (xp2_8 : PySem.W.subIn K (.ref X2) (.ref X8) = some false)
    (xp2_9 : PySem.W.subIn K (.ref X2) (.ref X9) = some false)
    (xp2_10 : PySem.W.subIn K (.ref X2) (.ref X10) = some false)
    (xp2_11 : PySem.W.subIn K (.ref X2) (.ref X11) = some false)
    (xp2_12 : PySem.W.subIn K (.ref X2) (.ref X12) = some false)
    (xp2_13 : PySem.W.subIn K (.ref X2) (.ref X13) = some false)
    (xp2_14 : PySem.W.subIn K (.ref X2) (.ref X14) = some false)
    (xp2_15 : PySem.W.subIn K (.ref X2) (.ref X15) = some false)
    (xp2_16 : PySem.W.subIn K (.ref X2) (.ref X16) = some false)
    (xp2_17 : PySem.W.subIn K (.ref X2) (.ref X17) = some false)
    (xb2_KeyError : PySem.W.subIn K (.ref X2) (.type "KeyError") = some false)
    (xb2_LookupError : PySem.W.subIn K (.ref X2) (.type "LookupError") = some false)
    (xb2_ValueError : PySem.W.subIn K (.ref X2) (.type "ValueError") = some true)
    (x0_3 : PySem.W.subIn K (.ref X3) (.ref X3) = some true)
    (xp3_0 : PySem.W.subIn K (.ref X3) (.ref X0) = some true)
    (xp3_1 : PySem.W.subIn K (.ref X3) (.ref X1) = some false)
    (xp3_2 : PySem.W.subIn K (.ref X3) (.ref X2) = some false)
    (xp3_4 : PySem.W.subIn K (.ref X3) (.ref X4) = some false)
    (xp3_5 : PySem.W.subIn K (.ref X3) (.ref X5) = some false)
    (xp3_6 : PySem.W.subIn K (.ref X3) (.ref X6) = some false)
    (xp3_7 : PySem.W.subIn K (.ref X3) (.ref X7) = some false)
    (xp3_8 : PySem.W.subIn K (.ref X3) (.ref X8) = some false)
    (xp3_9 : PySem.W.subIn K (.ref X3) (.ref X9) = some false)
    (xp3_10 : PySem.W.subIn K (.ref X3) (.ref X10) = some false)
    (xp3_11 : PySem.W.subIn K (.ref X3) (.ref X11) = some false)
    (xp3_12 : PySem.W.subIn K (.ref X3) (.ref X12) = some false)
    (xp3_13 : PySem.W.subIn K (.ref X3) (.ref X13) = some false)
    (xp3_14 : PySem.W.subIn K (.ref X3) (.ref X14) = some false)
    (xp3_15 : PySem.W.subIn K (.ref X3) (.ref X15) = some false)
    (xp3_16 : PySem.W.subIn K (.ref X3) (.ref X16) = some false)
    (xp3_17 : PySem.W.subIn K (.ref X3) (.ref X17) = some false)
    (xb3_KeyError : PySem.W.subIn K (.ref X3) (.type "KeyError") = some false)
    (xb3_LookupError : PySem.W.subIn K (.ref X3) (.type "LookupError") = some false)
    (xb3_ValueError : PySem.W.subIn K (.ref X3) (.type "ValueError") = some true)
    (x0_4 : PySem.W.subIn K (.ref X4) (.ref X4) = some true)
    (xp4_0 : PySem.W.subIn K (.ref X4) (.ref X0) = some true)
    (xp4_1 : PySem.W.subIn K (.ref X4) (.ref X1) = some false)
    (xp4_2 : PySem.W.subIn K (.ref X4) (.ref X2) = some false)
    (xp4_3 : PySem.W.subIn K (.ref X4) (.ref X3) = some false)
    (xp4_5 : PySem.W.subIn K (.ref X4) (.ref X5) = some false)
    (xp4_6 : PySem.W.subIn K (.ref X4) (.ref X6) = some false)
    (xp4_7 : PySem.W.subIn K (.ref X4) (.ref X7) = some false)
    (xp4_8 : PySem.W.subIn K (.ref X4) (.ref X8) = some false)
    (xp4_9 : PySem.W.subIn K (.ref X4) (.ref X9) = some false)
    (xp4_10 : PySem.W.subIn K (.ref X4) (.ref X10) = some false)
    (xp4_11 : PySem.W.subIn K (.ref X4) (.ref X11) = some false)
    (xp4_12 : PySem.W.subIn K (.ref X4) (.ref X12) = some false)
    (xp4_13 : PySem.W.subIn K (.ref X4) (.ref X13) = some false)
    (xp4_14 : PySem.W.subIn K (.ref X4) (.ref X14) = some false)
    (xp4_15 : PySem.W.subIn K (.ref X4) (.ref X15) = some false)
    (xp4_16 : PySem.W.subIn K (.ref X4) (.ref X16) = some false)
    (xp4_17 : PySem.W.subIn K (.ref X4) (.ref X17) = some false)
    (xb4_KeyError : PySem.W.subIn K (.ref X4) (.type "KeyError") = some false)
    (xb4_LookupError : PySem.W.subIn K (.ref X4) (.type "LookupError") = some false)
    (xb4_ValueError : PySem.W.subIn K (.ref X4) (.type "ValueError") = some true)
    (x0_5 : PySem.W.subIn K (.ref X5) (.ref X5) = some true)
    (xp5_0 : PySem.W.subIn K (.ref X5) (.ref X0) = some true)
    (xp5_1 : PySem.W.subIn K (.ref X5) (.ref X1) = some false)
    (xp5_2 : PySem.W.subIn K (.ref X5) (.ref X2) = some false)
    (xp5_3 : PySem.W.subIn K (.ref X5) (.ref X3) = some false)
    (xp5_4 : PySem.W.subIn K (.ref X5) (.ref X4) = some false)
    (xp5_6 : PySem.W.subIn K (.ref X5) (.ref X6) = some false)
    (xp5_7 : PySem.W.subIn K (.ref X5) (.ref X7) = some false)
    (xp5_8 : PySem.W.subIn K (.ref X5) (.ref X8) = some false)
    (xp5_9 : PySem.W.subIn K (.ref X5) (.ref X9) = some false)
    (xp5_10 : PySem.W.subIn K (.ref X5) (.ref X10) = some false)
    (xp5_11 : PySem.W.subIn K (.ref X5) (.ref X11) = some false)
    (xp5_12 : PySem.W.subIn K (.ref X5) (.ref X12) = some false)
    (xp5_13 : PySem.W.subIn K (.ref X5) (.ref X13) = some false)
    (xp5_14 : PySem.W.subIn K (.ref X5) (.ref X14) = some false)
    (xp5_15 : PySem.W.subIn K (.ref X5) (.ref X15) = some false)
    (xp5_16 : PySem.W.subIn K (.ref X5) (.ref X16) = some false)
    (xp5_17 : PySem.W.subIn K (.ref X5) (.ref X17) = some false)
    (xb5_KeyError : PySem.W.subIn K (.ref X5) (.type "KeyError") = some false)
    (xb5_LookupError : PySem.W.subIn K (.ref X5) (.type "LookupError") = some false)
    (xb5_ValueError : PySem.W.subIn K (.ref X5) (.type "ValueError") = some true)
    (x0_6 : PySem.W.subIn K (.ref X6) (.ref X6) = some true)
    (xp6_0 : PySem.W.subIn K (.ref X6) (.ref X0) = some true)
    (xp6_1 : PySem.W.subIn K (.ref X6) (.ref X1) = some false)
    (xp6_2 : PySem.W.subIn K (.ref X6) (.ref X2) = some false)
    (xp6_3 : PySem.W.subIn K (.ref X6) (.ref X3) = some false)
    (xp6_4 : PySem.W.subIn K (.ref X6) (.ref X4) = some false)
    (xp6_5 : PySem.W.subIn K (.ref X6) (.ref X5) = some false)
    (xp6_7 : PySem.W.subIn K (.ref X6) (.ref X7) = some false)
    (xp6_8 : PySem.W.subIn K (.ref X6) (.ref X8) = some false)
    (xp6_9 : PySem.W.subIn K (.ref X6) (.ref X9) = some false)
    (xp6_10 : PySem.W.subIn K (.ref X6) (.ref X10) = some false)
    (xp6_11 : PySem.W.subIn K (.ref X6) (.ref X11) = some false)
    (xp6_12 : PySem.W.subIn K (.ref X6) (.ref X12) = some false)
    (xp6_13 : PySem.W.subIn K (.ref X6) (.ref X13) = some false)
    (xp6_14 : PySem.W.subIn K (.ref X6) (.ref X14) = some false)
    (xp6_15 : PySem.W.subIn K (.ref X6) (.ref X15) = some false)
    (xp6_16 : PySem.W.subIn K (.ref X6) (.ref X16) = some false)
    (xp6_17 : PySem.W.subIn K (.ref X6) (.ref X17) = some false)
    (xb6_KeyError : PySem.W.subIn K (.ref X6) (.type "KeyError") = some false)
    (xb6_LookupError : PySem.W.subIn K (.ref X6) (.type "LookupError") = some false)
    (xb6_ValueError : PySem.W.subIn K (.ref X6) (.type "ValueError") = some true)
    (x0_7 : PySem.W.subIn K (.ref X7) (.ref X7) = some true)
    (xp7_0 : PySem.W.subIn K (.ref X7) (.ref X0) = some true)
    (xp7_1 : PySem.W.subIn K (.ref X7) (.ref X1) = some false)
    (xp7_2 : PySem.W.subIn K (.ref X7) (.ref X2) = some false)
    (xp7_3 : PySem.W.subIn K (.ref X7) (.ref X3) = some false)
    (xp7_4 : PySem.W.subIn K (.ref X7) (.ref X4) = some false)
    (xp7_5 : PySem.W.subIn K (.ref X7) (.ref X5) = some false)
    (xp7_6 : PySem.W.subIn K (.ref X7) (.ref X6) = some false)
    (xp7_8 : PySem.W.subIn K (.ref X7) (.ref X8) = some false)
    (xp7_9 : PySem.W.subIn K (.ref X7) (.ref X9) = some false)
    (xp7_10 : PySem.W.subIn K (.ref X7) (.ref X10) = some false)
    (xp7_11 : PySem.W.subIn K (.ref X7) (.ref X11) = some false)
    (xp7_12 : PySem.W.subIn K (.ref X7) (.ref X12) = some false)
    (xp7_13 : PySem.W.subIn K (.ref X7) (.ref X13) = some false)
    (xp7_14 : PySem.W.subIn K (.ref X7) (.ref X14) = some false)
    (xp7_15 : PySem.W.subIn K (.ref X7) (.ref X15) = some false)
    (xp7_16 : PySem.W.subIn K (.ref X7) (.ref X16) = some false)
    (xp7_17 : PySem.W.subIn K (.ref X7) (.ref X17) = some false)
    (xb7_KeyError : PySem.W.subIn K (.ref X7) (.type "KeyError") = some false)
    (xb7_LookupError : PySem.W.subIn K (.ref X7) (.type "LookupError") = some false)
    (xb7_ValueError : PySem.W.subIn K (.ref X7) (.type "ValueError") = some true)
    (x0_8 : PySem.W.subIn K (.ref X8) (.ref X8) = some true)
    (xp8_0 : PySem.W.subIn K (.ref X8) (.ref X0) = some true)
    (xp8_1 : PySem.W.subIn K (.ref X8) (.ref X1) = some false)
    (xp8_2 : PySem.W.subIn K (.ref X8) (.ref X2) = some false)
    (xp8_3 : PySem.W.subIn K (.ref X8) (.ref X3) = some false)
    (xp8_4 : PySem.W.subIn K (.ref X8) (.ref X4) = some false)
    (xp8_5 : PySem.W.subIn K (.ref X8) (.ref X5) = some false)
    (xp8_6 : PySem.W.subIn K (.ref X8) (.ref X6) = some false)
    (xp8_7 : PySem.W.subIn K (.ref X8) (.ref X7) = some false)
    (xp8_9 : PySem.W.subIn K (.ref X8) (.ref X9) = some false)
    (xp8_10 : PySem.W.subIn K (.ref X8) (.ref X10) = some false)
    (xp8_11 : PySem.W.subIn K (.ref X8) (.ref X11) = some false)
    (xp8_12 : PySem.W.subIn K (.ref X8) (.ref X12) = some false)
    (xp8_13 : PySem.W.subIn K (.ref X8) (.ref X13) = some false)
    (xp8_14 : PySem.W.subIn K (.ref X8) (.ref X14) = some false)
    (xp8_15 : PySem.W.subIn K (.ref X8) (.ref X15) = some false)
    (xp8_16 : PySem.W.subIn K (.ref X8) (.ref X16) = some false)
    (xp8_17 : PySem.W.subIn K (.ref X8) (.ref X17) = some false)
    (xb8_KeyError : PySem.W.subIn K (.ref X8) (.type "KeyError") = some false)
    (xb8_LookupError : PySem.W.subIn K (.ref X8) (.type "LookupError") = some false)
    (xb8_ValueError : PySem.W.subIn K (.ref X8) (.type "ValueError") = some true)
    (x0_13 : PySem.W.subIn K (.ref X13) (.ref X13) = some true)
    (xp13_0 : PySem.W.subIn K (.ref X13) (.ref X0) = some true)
    (xp13_1 : PySem.W.subIn K (.ref X13) (.ref X1) = some false)
    (xp13_2 : PySem.W.subIn K (.ref X13) (.ref X2) = some false)
    (xp13_3 : PySem.W.subIn K (.ref X13) (.ref X3) = some false)
    (xp13_4 : PySem.W.subIn K (.ref X13) (.ref X4) = some false)
    (xp13_5 : PySem.W.subIn K (.ref X13) (.ref X5) = some false)
    (xp13_6 : PySem.W.subIn K (.ref X13) (.ref X6) = some false)
    (xp13_7 : PySem.W.subIn K (.ref X13) (.ref X7) = some false)
    (xp13_8 : PySem.W.subIn K (.ref X13) (.ref X8) = some false)
    (xp13_9 : PySem.W.subIn K (.ref X13) (.ref X9) = some false)
    (xp13_10 : PySem.W.subIn K (.ref X13) (.ref X10) = some false)
    (xp13_11 : PySem.W.subIn K (.ref X13) (.ref X11) = some false)
    (xp13_12 : PySem.W.subIn K (.ref X13) (.ref X12) = some false)
    (xp13_14 : PySem.W.subIn K (.ref X13) (.ref X14) = some false)
    (xp13_15 : PySem.W.subIn K (.ref X13) (.ref X15) = some false)
    (xp13_16 : PySem.W.subIn K (.ref X13) (.ref X16) = some false)
    (xp13_17 : PySem.W.subIn K (.ref X13) (.ref X17) = some false)
    (xb13_KeyError : PySem.W.subIn K (.ref X13) (.type "KeyError") = some false)
    (xb13_LookupError : PySem.W.subIn K (.ref X13) (.type "LookupError") = some false)
    (xb13_ValueError : PySem.W.subIn K (.ref X13) (.type "ValueError") = some true)
    (x0_14 : PySem.W.subIn K (.ref X14) (.ref X14) = some true)
    (xp14_0 : PySem.W.subIn K (.ref X14) (.ref X0) = some true)
    (xp14_1 : PySem.W.subIn K (.ref X14) (.ref X1) = some false)
    (xp14_2 : PySem.W.subIn K (.ref X14) (.ref X2) = some false)
    (xp14_3 : PySem.W.subIn K (.ref X14) (.ref X3) = some false)
    (xp14_4 : PySem.W.subIn K (.ref X14) (.ref X4) = some false)
    (xp14_5 : PySem.W.subIn K (.ref X14) (.ref X5) = some false)
    (xp14_6 : PySem.W.subIn K (.ref X14) (.ref X6) = some false)
    (xp14_7 : PySem.W.subIn K (.ref X14) (.ref X7) = some false)
    (xp14_8 : PySem.W.subIn K (.ref X14) (.ref X8) = some false)
    (xp14_9 : PySem.W.subIn K (.ref X14) (.ref X9) = some false)
    (xp14_10 : PySem.W.subIn K (.ref X14) (.ref X10) = some false)
    (xp14_11 : PySem.W.subIn K (.ref X14) (.ref X11) = some false)
    (xp14_12 : PySem.W.subIn K (.ref X14) (.ref X12) = some false)
    (xp14_13 : PySem.W.subIn K (.ref X14) (.ref X13) = some false)
    (xp14_15 : PySem.W.subIn K (.ref X14) (.ref X15) = some false)
    (xp14_16 : PySem.W.subIn K (.ref X14) (.ref X16) = some false)
    (xp14_17 : PySem.W.subIn K (.ref X14) (.ref X17) = some false)
    (xb14_KeyError : PySem.W.subIn K (.ref X14) (.type "KeyError") = some false)
    (xb14_LookupError : PySem.W.subIn K (.ref X14) (.type "LookupError") = some false)
    (xb14_ValueError : PySem.W.subIn K (.ref X14) (.type "ValueError") = some true)
    (x0_15 : PySem.W.subIn K (.ref X15) (.ref X15) = some true)
    (xp15_0 : PySem.W.subIn K (.ref X15) (.ref X0) = some true)
    (xp15_1 : PySem.W.subIn K (.ref X15) (.ref X1) = some false)
    (xp15_2 : PySem.W.subIn K (.ref X15) (.ref X2) = some false)
    (xp15_3 : PySem.W.subIn K (.ref X15) (.ref X3) = some false)
    (xp15_4 : PySem.W.subIn K (.ref X15) (.ref X4) = some false)
    (xp15_5 : PySem.W.subIn K (.ref X15) (.ref X5) = some false)
    (xp15_6 : PySem.W.subIn K (.ref X15) (.ref X6) = some false)
    (xp15_7 : PySem.W.subIn K (.ref X15) (.ref X7) = some false)
    (xp15_8 : PySem.W.subIn K (.ref X15) (.ref X8) = some false)
    (xp15_9 : PySem.W.subIn K (.ref X15) (.ref X9) = some false)
    (xp15_10 : PySem.W.subIn K (.ref X15) (.ref X10) = some false)
    (xp15_11 : PySem.W.subIn K (.ref X15) (.ref X11) = some false)
    (xp15_12 : PySem.W.subIn K (.ref X15) (.ref X12) = some false)
    (xp15_13 : PySem.W.subIn K (.ref X15) (.ref X13) = some false)
    (xp15_14 : PySem.W.subIn K (.ref X15) (.ref X14) = some false)
    (xp15_16 : PySem.W.subIn K (.ref X15) (.ref X16) = some false)
    (xp15_17 : PySem.W.subIn K (.ref X15) (.ref X17) = some false)
    (xb15_KeyError : PySem.W.subIn K (.ref X15) (.type "KeyError") = some false)
    (xb15_LookupError : PySem.W.subIn K (.ref X15) (.type "LookupError") = some false)
    (xb15_ValueError : PySem.W.subIn K (.ref X15) (.type "ValueError") = some true)
    (x0_16 : PySem.W.subIn K (.ref X16) (.ref X16) = some true)
    (xp16_0 : PySem.W.subIn K (.ref X16) (.ref X0) = some true)
    (xp16_1 : PySem.W.subIn K (.ref X16) (.ref X1) = some false)
    (xp16_2 : PySem.W.subIn K (.ref X16) (.ref X2) = some false)
    (xp16_3 : PySem.W.subIn K (.ref X16) (.ref X3) = some false)
    (xp16_4 : PySem.W.subIn K (.ref X16) (.ref X4) = some false)
    (xp16_5 : PySem.W.subIn K (.ref X16) (.ref X5) = some false)
    (xp16_6 : PySem.W.subIn K (.ref X16) (.ref X6) = some false)
    (xp16_7 : PySem.W.subIn K (.ref X16) (.ref X7) = some false)
    (xp16_8 : PySem.W.subIn K (.ref X16) (.ref X8) = some false)
    (xp16_9 : PySem.W.subIn K (.ref X16) (.ref X9) = some false)
    (xp16_10 : PySem.W.subIn K (.ref X16) (.ref X10) = some false)
    (xp16_11 : PySem.W.subIn K (.ref X16) (.ref X11) = some false)
    (xp16_12 : PySem.W.subIn K (.ref X16) (.ref X12) = some false)
    (xp16_13 : PySem.W.subIn K (.ref X16) (.ref X13) = some false)
    (xp16_14 : PySem.W.subIn K (.ref X16) (.ref X14) = some false)
    (xp16_15 : PySem.W.subIn K (.ref X16) (.ref X15) = some false)
    (xp16_17 : PySem.W.subIn K (.ref X16) (.ref X17) = some false)
    (xb16_KeyError : PySem.W.subIn K (.ref X16) (.type "KeyError") = some false)
    (xb16_LookupError : PySem.W.subIn K (.ref X16) (.type "LookupError") = some false)
    (xb16_ValueError : PySem.W.subIn K (.ref X16) (.type "ValueError") = some true)
    (x0_17 : PySem.W.subIn K (.ref X17) (.ref X17) = some true)
    (xp17_0 : PySem.W.subIn K (.ref X17) (.ref X0) = some false)
    (xp17_1 : PySem.W.subIn K (.ref X17) (.ref X1) = some false)
    (xp17_2 : PySem.W.subIn K (.ref X17) (.ref X2) = some false)
    (xp17_3 : PySem.W.subIn K (.ref X17) (.ref X3) = some false)
    (xp17_4 : PySem.W.subIn K (.ref X17) (.ref X4) = some false)
    (xp17_5 : PySem.W.subIn K (.ref X17) (.ref X5) = some false)
    (xp17_6 : PySem.W.subIn K (.ref X17) (.ref X6) = some false)
    (xp17_7 : PySem.W.subIn K (.ref X17) (.ref X7) = some false)
    (xp17_8 : PySem.W.subIn K (.ref X17) (.ref X8) = some false)
    (xp17_9 : PySem.W.subIn K (.ref X17) (.ref X9) = some false)
    (xp17_10 : PySem.W.subIn K (.ref X17) (.ref X10) = some false)
    (xp17_11 : PySem.W.subIn K (.ref X17) (.ref X11) = some false)
    (xp17_12 : PySem.W.subIn K (.ref X17) (.ref X12) = some false)
    (xp17_13 : PySem.W.subIn K (.ref X17) (.ref X13) = some false)
    (xp17_14 : PySem.W.subIn K (.ref X17) (.ref X14) = some false)
    (xp17_15 : PySem.W.subIn K (.ref X17) (.ref X15) = some false)
    (xp17_16 : PySem.W.subIn K (.ref X17) (.ref X16) = some false)
    (xb17_KeyError : PySem.W.subIn K (.ref X17) (.type "KeyError") = some false)
    (xb17_LookupError : PySem.W.subIn K (.ref X17) (.type "LookupError") = some true)
    (xb17_ValueError : PySem.W.subIn K (.ref X17) (.type "ValueError") = some false)
    (x0_9 : PySem.W.subIn K (.ref X9) (.ref X9) = some true)
    (xp9_0 : PySem.W.subIn K (.ref X9) (.ref X0) = some true)
    (xp9_1 : PySem.W.subIn K (.ref X9) (.ref X1) = some false)
    (xp9_2 : PySem.W.subIn K (.ref X9) (.ref X2) = some false)
    (xp9_3 : PySem.W.subIn K (.ref X9) (.ref X3) = some false)
    (xp9_4 : PySem.W.subIn K (.ref X9) (.ref X4) = some false)
    (xp9_5 : PySem.W.subIn K (.ref X9) (.ref X5) = some false)
    (xp9_6 : PySem.W.subIn K (.ref X9) (.ref X6) = some false)
    (xp9_7 : PySem.W.subIn K (.ref X9) (.ref X7) = some false)
    (xp9_8 : PySem.W.subIn K (.ref X9) (.ref X8) = some false)
    (xp9_10 : PySem.W.subIn K (.ref X9) (.ref X10) = some false)
    (xp9_11 : PySem.W.subIn K (.ref X9) (.ref X11) = some false)
    (xp9_12 : PySem.W.subIn K (.ref X9) (.ref X12) = some false)
    (xp9_13 : PySem.W.subIn K (.ref X9) (.ref X13) = some false)
    (xp9_14 : PySem.W.subIn K (.ref X9) (.ref X14) = some false)
    (xp9_15 : PySem.W.subIn K (.ref X9) (.ref X15) = some false)
    (xp9_16 : PySem.W.subIn K (.ref X9) (.ref X16) = some false)
    (xp9_17 : PySem.W.subIn K (.ref X9) (.ref X17) = some false)
    (xb9_KeyError : PySem.W.subIn K (.ref X9) (.type "KeyError") = some false)
    (xb9_LookupError : PySem.W.subIn K (.ref X9) (.type "LookupError") = some false)
    (xb9_ValueError : PySem.W.subIn K (.ref X9) (.type "ValueError") = some true)
    (x0_10 : PySem.W.subIn K (.ref X10) (.ref X10) = some true)
    (xp10_0 : PySem.W.subIn K (.ref X10) (.ref X0) = some true)
    (xp10_1 : PySem.W.subIn K (.ref X10) (.ref X1) = some false)
    (xp10_2 : PySem.W.subIn K (.ref X10) (.ref X2) = some false)
    (xp10_3 : PySem.W.subIn K (.ref X10) (.ref X3) = some false)
    (xp10_4 : PySem.W.subIn K (.ref X10) (.ref X4) = some false)
    (xp10_5 : PySem.W.subIn K (.ref X10) (.ref X5) = some false)
    (xp10_6 : PySem.W.subIn K (.ref X10) (.ref X6) = some false)
    (xp10_7 : PySem.W.subIn K (.ref X10) (.ref X7) = some false)
    (xp10_8 : PySem.W.subIn K (.ref X10) (.ref X8) = some false)
    (xp10_9 : PySem.W.subIn K (.ref X10) (.ref X9) = some false)
    (xp10_11 : PySem.W.subIn K (.ref X10) (.ref X11) = some false)
    (xp10_12 : PySem.W.subIn K (.ref X10) (.ref X12) = some false)
    (xp10_13 : PySem.W.subIn K (.ref X10) (.ref X13) = some false)
    (xp10_14 : PySem.W.subIn K (.ref X10) (.ref X14) = some false)
    (xp10_15 : PySem.W.subIn K (.ref X10) (.ref X15) = some false)
    (xp10_16 : PySem.W.subIn K (.ref X10) (.ref X16) = some false)
    (xp10_17 : PySem.W.subIn K (.ref X10) (.ref X17) = some false)
    (xb10_KeyError : PySem.W.subIn K (.ref X10) (.type "KeyError") = some false)
    (xb10_LookupError : PySem.W.subIn K (.ref X10) (.type "LookupError") = some false)
    (xb10_ValueError : PySem.W.subIn K (.ref X10) (.type "ValueError") = some true)
    (x0_11 : PySem.W.subIn K (.ref X11) (.ref X11) = some true)
    (xp11_0 : PySem.W.subIn K (.ref X11) (.ref X0) = some true)
    (xp11_1 : PySem.W.subIn K (.ref X11) (.ref X1) = some false)
    (xp11_2 : PySem.W.subIn K (.ref X11) (.ref X2) = some false)
    (xp11_3 : PySem.W.subIn K (.ref X11) (.ref X3) = some false)
    (xp11_4 : PySem.W.subIn K (.ref X11) (.ref X4) = some false)
    (xp11_5 : PySem.W.subIn K (.ref X11) (.ref X5) = some false)
    (xp11_6 : PySem.W.subIn K (.ref X11) (.ref X6) = some false)
    (xp11_7 : PySem.W.subIn K (.ref X11) (.ref X7) = some false)
    (xp11_8 : PySem.W.subIn K (.ref X11) (.ref X8) = some false)
    (xp11_9 : PySem.W.subIn K (.ref X11) (.ref X9) = some false)
    (xp11_10 : PySem.W.subIn K (.ref X11) (.ref X10) = some false)
    (xp11_12 : PySem.W.subIn K (.ref X11) (.ref X12) = some false)
    (xp11_13 : PySem.W.subIn K (.ref X11) (.ref X13) = some false)
    (xp11_14 : PySem.W.subIn K (.ref X11) (.ref X14) = some false)
    (xp11_15 : PySem.W.subIn K (.ref X11) (.ref X15) = some false)
    (xp11_16 : PySem.W.subIn K (.ref X11) (.ref X16) = some false)
    (xp11_17 : PySem.W.subIn K (.ref X11) (.ref X17) = some false)
    (xb11_KeyError : PySem.W.subIn K (.ref X11) (.type "KeyError") = some false)
    (xb11_LookupError : PySem.W.subIn K (.ref X11) (.type "LookupError") = some false)
    (xb11_ValueError : PySem.W.subIn K (.ref X11) (.type "ValueError") = some true)
    (x0_12 : PySem.W.subIn K (.ref X12) (.ref X12) = some true)
    (xp12_0 : PySem.W.subIn K (.ref X12) (.ref X0) = some true)
    (xp12_1 : PySem.W.subIn K (.ref X12) (.ref X1) = some false)
    (xp12_2 : PySem.W.subIn K (.ref X12) (.ref X2) = some false)
    (xp12_3 : PySem.W.subIn K (.ref X12) (.ref X3) = some false)
    (xp12_4 : PySem.W.subIn K (.ref X12) (.ref X4) = some false)
    (xp12_5 : PySem.W.subIn K (.ref X12) (.ref X5) = some false)
    (xp12_6 : PySem.W.subIn K (.ref X12) (.ref X6) = some false)
    (xp12_7 : PySem.W.subIn K (.ref X12) (.ref X7) = some false)
    (xp12_8 : PySem.W.subIn K (.ref X12) (.ref X8) = some false)
    (xp12_9 : PySem.W.subIn K (.ref X12) (.ref X9) = some false)
    (xp12_10 : PySem.W.subIn K (.ref X12) (.ref X10) = some false)
    (xp12_11 : PySem.W.subIn K (.ref X12) (.ref X11) = some false)
    (xp12_13 : PySem.W.subIn K (.ref X12) (.ref X13) = some false)
    (xp12_14 : PySem.W.subIn K (.ref X12) (.ref X14) = some false)
    (xp12_15 : PySem.W.subIn K (.ref X12) (.ref X15) = some false)
    (xp12_16 : PySem.W.subIn K (.ref X12) (.ref X16) = some false)
    (xp12_17 : PySem.W.subIn K (.ref X12) (.ref X17) = some false)
    (xb12_KeyError : PySem.W.subIn K (.ref X12) (.type "KeyError") = some false)
    (xb12_LookupError : PySem.W.subIn K (.ref X12) (.type "LookupError") = some false)
    (xb12_ValueError : PySem.W.subIn K (.ref X12) (.type "ValueError") = some true)
    (xn0 : PySem.W.subIn K (.type "NoneType") (.ref X0) = some false)
    (xn1 : PySem.W.subIn K (.type "NoneType") (.ref X1) = some false)
    (xn2 : PySem.W.subIn K (.type "NoneType") (.ref X2) = some false)
    (xn3 : PySem.W.subIn K (.type "NoneType") (.ref X3) = some false)
    (xn4 : PySem.W.subIn K (.type "NoneType") (.ref X4) = some false)
    (xn5 : PySem.W.subIn K (.type "NoneType") (.ref X5) = some false)
    (xn6 : PySem.W.subIn K (.type "NoneType") (.ref X6) = some false)
    (xn7 : PySem.W.subIn K (.type "NoneType") (.ref X7) = some false)
    (xn8 : PySem.W.subIn K (.type "NoneType") (.ref X8) = some false)
    (xn9 : PySem.W.subIn K (.type "NoneType") (.ref X9) = some false)
    (xn10 : PySem.W.subIn K (.type "NoneType") (.ref X10) = some false)
    (xn11 : PySem.W.subIn K (.type "NoneType") (.ref X11) = some false)
    (xn12 : PySem.W.subIn K (.type "NoneType") (.ref X12) = some false)
    (xn13 : PySem.W.subIn K (.type "NoneType") (.ref X13) = some false)
    (xn14 : PySem.W.subIn K (.type "NoneType") (.ref X14) = some false)
    (xn15 : PySem.W.subIn K (.type "NoneType") (.ref X15) = some false)
    (xn16 : PySem.W.subIn K (.type "NoneType") (.ref X16) = some false)
    (xn17 : PySem.W.subIn K (.type "NoneType") (.ref X17) = some false)
    (a0_0 : PySem.W.nsIn K mainGlobals "_law_pool" = some (some (.ref f0)))
    (l0 : K.lookup f0 = some ⟨oc0, od0, .func (PySem.W.fnOf "_law_pool" "_law_pool" (defArgs s_law_pool) (defBody s_law_pool) (defScope s_law_pool) .none kV0 dc0 pm0 an0 cd0 ct0), sl0⟩)
    (c0 : PySem.W.codeIn K cd0 "_law_pool" = true)
    (k0 : PySem.W.keepIn K (.ref f0) = true)
    (a1_0 : PySem.W.nsIn K mainGlobals "_law_take" = some (some (.ref f1)))
    (l1 : K.lookup f1 = some ⟨oc1, od1, .func (PySem.W.fnOf "_law_take" "_law_take" (defArgs s_law_take) (defBody s_law_take) (defScope s_law_take) .none kV1 dc1 pm1 an1 cd1 ct1), sl1⟩)
    (c1 : PySem.W.codeIn K cd1 "_law_take" = true)
    (k1 : PySem.W.keepIn K (.ref f1) = true)
    (a2_0 : PySem.W.nsIn K mainGlobals "_law_made" = some (some (.ref f2)))
    (l2 : K.lookup f2 = some ⟨oc2, od2, .func (PySem.W.fnOf "_law_made" "_law_made" (defArgs s_law_made) (defBody s_law_made) (defScope s_law_made) .none kV2 dc2 pm2 an2 cd2 ct2), sl2⟩)
    (c2 : PySem.W.codeIn K cd2 "_law_made" = true)
    (k2 : PySem.W.keepIn K (.ref f2) = true)
    (a3_0 : PySem.W.nsIn K mainGlobals "_law_part" = some (some (.ref f3)))
    (l3 : K.lookup f3 = some ⟨oc3, od3, .func (PySem.W.fnOf "_law_part" "_law_part" (defArgs s_law_part) (defBody s_law_part) (defScope s_law_part) .none kV3 dc3 pm3 an3 cd3 ct3), sl3⟩)
    (c3 : PySem.W.codeIn K cd3 "_law_part" = true)
    (k3 : PySem.W.keepIn K (.ref f3) = true)
    (a4_0 : PySem.W.nsIn K mainGlobals "_law_sorts" = some (some (.ref f4)))
    (l4 : K.lookup f4 = some ⟨oc4, od4, .func (PySem.W.fnOf "_law_sorts" "_law_sorts" (defArgs s_law_sorts) (defBody s_law_sorts) (defScope s_law_sorts) .none kV4 dc4 pm4 an4 cd4 ct4), sl4⟩)
    (c4 : PySem.W.codeIn K cd4 "_law_sorts" = true)
    (k4 : PySem.W.keepIn K (.ref f4) = true)
    (a5_0 : PySem.W.nsIn K mainGlobals "_law_kinds" = some (some (.ref f5)))
    (l5 : K.lookup f5 = some ⟨oc5, od5, .func (PySem.W.fnOf "_law_kinds" "_law_kinds" (defArgs s_law_kinds) (defBody s_law_kinds) (defScope s_law_kinds) .none kV5 dc5 pm5 an5 cd5 ct5), sl5⟩)
    (c5 : PySem.W.codeIn K cd5 "_law_kinds" = true)
    (k5 : PySem.W.keepIn K (.ref f5) = true)
    (a6_0 : PySem.W.nsIn K mainGlobals "_law_kept" = some (some (.ref f6)))
    (l6 : K.lookup f6 = some ⟨oc6, od6, .func (PySem.W.fnOf "_law_kept" "_law_kept" (defArgs s_law_kept) (defBody s_law_kept) (defScope s_law_kept) .none kV6 dc6 pm6 an6 cd6 ct6), sl6⟩)
    (c6 : PySem.W.codeIn K cd6 "_law_kept" = true)
    (k6 : PySem.W.keepIn K (.ref f6) = true)
    (a7_0 : PySem.W.nsIn K mainGlobals "law" = some (some (.ref f7)))
    (l7 : K.lookup f7 = some ⟨oc7, od7, .func (PySem.W.fnOf "law" "law" (defArgs s_law) (defBody s_law) (defScope s_law) .none kV7 dc7 pm7 an7 cd7 ct7), sl7⟩)
    (c7 : PySem.W.codeIn K cd7 "law" = true)
    (k7 : PySem.W.keepIn K (.ref f7) = true)
    (z_KeyError : PySem.W.nsIn K mainGlobals "KeyError" = some none)
    (z_LookupError : PySem.W.nsIn K mainGlobals "LookupError" = some none)
    (z_ValueError : PySem.W.nsIn K mainGlobals "ValueError" = some none)
    (z_int : PySem.W.nsIn K mainGlobals "int" = some none)
    (z_isinstance : PySem.W.nsIn K mainGlobals "isinstance" = some none)
    (z_len : PySem.W.nsIn K mainGlobals "len" = some none)
    (z_range : PySem.W.nsIn K mainGlobals "range" = some none) :
    ∃ (c : String → Addr) (fd : FuncData), (∀ (s : Shared) (v : Value), BindsTo s fd ⟨[v], []⟩ [("_law_script", v)]) ∧ ∀ base : Heap, K.In base → base.Ns mainGlobals mg → FnG l.prog w K mg base 4 fa fd ["_law_script"] (spG ⟨K, c, w⟩ 1 m_law) := by
  have e := hfa.symm.trans (PySem.W.mg_of X G a7_0)
  cases e
  obtain ⟨c, eX0, eX1, eX2, eX3, eX4, eX5, eX6, eX7, eX8, eX9, eX10, eX11, eX12, eX13, eX14, eX15, eX16, eX17⟩ : ∃ c : String → Addr, c "AloneError" = X0 ∧ c "NoName" = X1 ∧ c "NoField" = X2 ∧ c "NoCase" = X3 ∧ c "NoBook" = X4 ∧ c "NoText" = X5 ∧ c "TooMany" = X6 ∧ c "NotOnce" = X7 ∧ c "NoProgram" = X8 ∧ c "NoRow" = X9 ∧ c "NoWish" = X10 ∧ c "NoLeaf" = X11 ∧ c "NoWord" = X12 ∧ c "NoNumbers" = X13 ∧ c "NoWhen" = X14 ∧ c "NoChange" = X15 ∧ c "NoLine" = X16 ∧ c "NoKeeper" = X17 := ⟨fun s => if s = "AloneError" then X0 else if s = "NoName" then X1 else if s = "NoField" then X2 else if s = "NoCase" then X3 else if s = "NoBook" then X4 else if s = "NoText" then X5 else if s = "TooMany" then X6 else if s = "NotOnce" then X7 else if s = "NoProgram" then X8 else if s = "NoRow" then X9 else if s = "NoWish" then X10 else if s = "NoLeaf" then X11 else if s = "NoWord" then X12 else if s = "NoNumbers" then X13 else if s = "NoWhen" then X14 else if s = "NoChange" then X15 else if s = "NoLine" then X16 else if s = "NoKeeper" then X17 else (0 : Addr), by simp, by simp, by simp, by simp, by simp, by simp, by simp, by simp, by simp, by simp, by simp, by simp, by simp, by simp, by simp, by simp, by simp, by simp⟩
  subst eX0
  subst eX1
  subst eX2
  subst eX3
  subst eX4
  subst eX5
  subst eX6
  subst eX7
  subst eX8
  subst eX9
  subst eX10
  subst eX11
  subst eX12
  subst eX13
  subst eX14
  subst eX15
  subst eX16
  subst eX17
  have I0 : IsC K (c "AloneError") := ⟨xg0, xh0, xs0, xd0, xc0, xspec, xtake, xm0, xt0⟩
  have I1 : IsC K (c "NoName") := ⟨xg1, xh1, xs1, xd1, xc1, xspec, xtake, xm1, xt1⟩
  have I2 : IsC K (c "NoField") := ⟨xg2, xh2, xs2, xd2, xc2, xspec, xtake, xm2, xt2⟩
  have I3 : IsC K (c "NoCase") := ⟨xg3, xh3, xs3, xd3, xc3, xspec, xtake, xm3, xt3⟩
  have I4 : IsC K (c "NoBook") := ⟨xg4, xh4, xs4, xd4, xc4, xspec, xtake, xm4, xt4⟩
  have I5 : IsC K (c "NoText") := ⟨xg5, xh5, xs5, xd5, xc5, xspec, xtake, xm5, xt5⟩
  have I6 : IsC K (c "TooMany") := ⟨xg6, xh6, xs6, xd6, xc6, xspec, xtake, xm6, xt6⟩
  have I7 : IsC K (c "NotOnce") := ⟨xg7, xh7, xs7, xd7, xc7, xspec, xtake, xm7, xt7⟩
  have I8 : IsC K (c "NoProgram") := ⟨xg8, xh8, xs8, xd8, xc8, xspec, xtake, xm8, xt8⟩
  have I9 : IsC K (c "NoRow") := ⟨xg9, xh9, xs9, xd9, xc9, xspec, xtake, xm9, xt9⟩
  have I10 : IsC K (c "NoWish") := ⟨xg10, xh10, xs10, xd10, xc10, xspec, xtake, xm10, xt10⟩
  have I11 : IsC K (c "NoLeaf") := ⟨xg11, xh11, xs11, xd11, xc11, xspec, xtake, xm11, xt11⟩
  have I12 : IsC K (c "NoWord") := ⟨xg12, xh12, xs12, xd12, xc12, xspec, xtake, xm12, xt12⟩
  have I13 : IsC K (c "NoNumbers") := ⟨xg13, xh13, xs13, xd13, xc13, xspec, xtake, xm13, xt13⟩
  have I14 : IsC K (c "NoWhen") := ⟨xg14, xh14, xs14, xd14, xc14, xspec, xtake, xm14, xt14⟩
  have I15 : IsC K (c "NoChange") := ⟨xg15, xh15, xs15, xd15, xc15, xspec, xtake, xm15, xt15⟩
  have I16 : IsC K (c "NoLine") := ⟨xg16, xh16, xs16, xd16, xc16, xspec, xtake, xm16, xt16⟩
  have I17 : IsC K (c "NoKeeper") := ⟨xg17, xh17, xs17, xd17, xc17, xspec, xtake, xm17, xt17⟩
  have T : Tx K w mg c ⟨fx1, PySem.W.fnOf "__init__" "NoName.__init__" (defArgs sx_NoName) (defBody sx_NoName) (defScope sx_NoName) .none kVx1 dcx1 pmx1 anx1 cdx1 ctx1, fx2, PySem.W.fnOf "__init__" "NoField.__init__" (defArgs sx_NoField) (defBody sx_NoField) (defScope sx_NoField) .none kVx2 dcx2 pmx2 anx2 cdx2 ctx2, fx3, PySem.W.fnOf "__init__" "NoCase.__init__" (defArgs sx_NoCase) (defBody sx_NoCase) (defScope sx_NoCase) .none kVx3 dcx3 pmx3 anx3 cdx3 ctx3, fx4, PySem.W.fnOf "__init__" "NoBook.__init__" (defArgs sx_NoBook) (defBody sx_NoBook) (defScope sx_NoBook) .none kVx4 dcx4 pmx4 anx4 cdx4 ctx4, fx5, PySem.W.fnOf "__init__" "NoText.__init__" (defArgs sx_NoText) (defBody sx_NoText) (defScope sx_NoText) .none kVx5 dcx5 pmx5 anx5 cdx5 ctx5, fx6, PySem.W.fnOf "__init__" "TooMany.__init__" (defArgs sx_TooMany) (defBody sx_TooMany) (defScope sx_TooMany) .none kVx6 dcx6 pmx6 anx6 cdx6 ctx6, fx7, PySem.W.fnOf "__init__" "NotOnce.__init__" (defArgs sx_NotOnce) (defBody sx_NotOnce) (defScope sx_NotOnce) .none kVx7 dcx7 pmx7 anx7 cdx7 ctx7, fx8, PySem.W.fnOf "__init__" "NoProgram.__init__" (defArgs sx_NoProgram) (defBody sx_NoProgram) (defScope sx_NoProgram) .none kVx8 dcx8 pmx8 anx8 cdx8 ctx8, f0, PySem.W.fnOf "_law_pool" "_law_pool" (defArgs s_law_pool) (defBody s_law_pool) (defScope s_law_pool) .none kV0 dc0 pm0 an0 cd0 ct0, f1, PySem.W.fnOf "_law_take" "_law_take" (defArgs s_law_take) (defBody s_law_take) (defScope s_law_take) .none kV1 dc1 pm1 an1 cd1 ct1, f2, PySem.W.fnOf "_law_made" "_law_made" (defArgs s_law_made) (defBody s_law_made) (defScope s_law_made) .none kV2 dc2 pm2 an2 cd2 ct2, f3, PySem.W.fnOf "_law_part" "_law_part" (defArgs s_law_part) (defBody s_law_part) (defScope s_law_part) .none kV3 dc3 pm3 an3 cd3 ct3, f4, PySem.W.fnOf "_law_sorts" "_law_sorts" (defArgs s_law_sorts) (defBody s_law_sorts) (defScope s_law_sorts) .none kV4 dc4 pm4 an4 cd4 ct4, f5, PySem.W.fnOf "_law_kinds" "_law_kinds" (defArgs s_law_kinds) (defBody s_law_kinds) (defScope s_law_kinds) .none kV5 dc5 pm5 an5 cd5 ct5, f6, PySem.W.fnOf "_law_kept" "_law_kept" (defArgs s_law_kept) (defBody s_law_kept) (defScope s_law_kept) .none kV6 dc6 pm6 an6 cd6 ct6, fa, PySem.W.fnOf "law" "law" (defArgs s_law) (defBody s_law) (defScope s_law) .none kV7 dc7 pm7 an7 cd7 ct7⟩ := ⟨funx_mk (st := s_law_pool) l0 c0 k0,
    .all fun us hl => match us, hl with | [_, _], _ => rfl,
    funx_mk (st := s_law_take) l1 c1 k1,
    .all fun us hl => match us, hl with | [_, _], _ => rfl,
    funx_mk (st := s_law_made) l2 c2 k2,
    .all fun us hl => match us, hl with | [_, _, _], _ => rfl,
    funx_mk (st := s_law_part) l3 c3 k3,
    .all fun us hl => match us, hl with | [_, _, _], _ => rfl,
    funx_mk (st := s_law_sorts) l4 c4 k4,
    .all fun us hl => match us, hl with | [_], _ => rfl,
    funx_mk (st := s_law_kinds) l5 c5 k5,
    .all fun us hl => match us, hl with | [_], _ => rfl,
    funx_mk (st := s_law_kept) l6 c6 k6,
    .all fun us hl => match us, hl with | [_, _, _, _], _ => rfl,
    funx_mk (st := s_law) l7 c7 k7,
    .all fun us hl => match us, hl with | [_], _ => rfl,
    ⟨xe13, PySem.W.mg_of X G xa13, xk13, xs13, xt13⟩,
    ⟨xe14, PySem.W.mg_of X G xa14, xk14, xs14, xt14⟩,
    ⟨xe15, PySem.W.mg_of X G xa15, xk15, xs15, xt15⟩,
    ⟨xe16, PySem.W.mg_of X G xa16, xk16, xs16, xt16⟩,
    ⟨xe17, PySem.W.mg_of X G xa17, xk17, xs17, xt17⟩,
    ⟨xe9, PySem.W.mg_of X G xa9, xk9, xs9, xt9⟩,
    ⟨xe10, PySem.W.mg_of X G xa10, xk10, xs10, xt10⟩,
    ⟨xe11, PySem.W.mg_of X G xa11, xk11, xs11, xt11⟩,
    ⟨xe12, PySem.W.mg_of X G xa12, xk12, xs12, xt12⟩,
    funx_mk (st := sx_NoName) xlf1 xcf1 xkf1,
    ⟨⟨⟨_, _, _, _, _, _, _, _, _, _, _, _, _, _, xl1⟩, xsa1, xs1, xt1, xk1⟩, PySem.W.mg_of X G xa1, xi1, xti1, xnf1_0⟩,
    .all fun us hl => match us, hl with | [_, _], _ => rfl,
    funx_mk (st := sx_NoField) xlf2 xcf2 xkf2,
    ⟨⟨⟨_, _, _, _, _, _, _, _, _, _, _, _, _, _, _, xl2, by rfl⟩, xsa2, xs2, xt2, xk2⟩, PySem.W.mg_of X G xa2, xi2, xti2, List.forall_mem_cons.mpr ⟨xnf2_0, List.forall_mem_cons.mpr ⟨xnf2_1, fun _ h => nomatch h⟩⟩⟩,
    .all fun us hl => match us, hl with | [_, _, _], _ => rfl,
    funx_mk (st := sx_NoCase) xlf3 xcf3 xkf3,
    ⟨⟨⟨_, _, _, _, _, _, _, _, _, _, _, _, _, _, _, xl3, by rfl⟩, xsa3, xs3, xt3, xk3⟩, PySem.W.mg_of X G xa3, xi3, xti3, List.forall_mem_cons.mpr ⟨xnf3_0, List.forall_mem_cons.mpr ⟨xnf3_1, fun _ h => nomatch h⟩⟩⟩,
    .all fun us hl => match us, hl with | [_, _, _], _ => rfl,
    funx_mk (st := sx_NoBook) xlf4 xcf4 xkf4,
    ⟨⟨⟨_, _, _, _, _, _, _, _, _, _, _, _, _, _, _, xl4, by rfl⟩, xsa4, xs4, xt4, xk4⟩, PySem.W.mg_of X G xa4, xi4, xti4, List.forall_mem_cons.mpr ⟨xnf4_0, fun _ h => nomatch h⟩⟩,
    .all fun us hl => match us, hl with | [_, _], _ => rfl,
    funx_mk (st := sx_NoText) xlf5 xcf5 xkf5,
    ⟨⟨⟨_, _, _, _, _, _, _, _, _, _, _, _, _, _, _, xl5, by rfl⟩, xsa5, xs5, xt5, xk5⟩, PySem.W.mg_of X G xa5, xi5, xti5, List.forall_mem_cons.mpr ⟨xnf5_0, fun _ h => nomatch h⟩⟩,
    .all fun us hl => match us, hl with | [_, _], _ => rfl,
    funx_mk (st := sx_TooMany) xlf6 xcf6 xkf6,
    ⟨⟨⟨_, _, _, _, _, _, _, _, _, _, _, _, _, _, _, xl6, by rfl⟩, xsa6, xs6, xt6, xk6⟩, PySem.W.mg_of X G xa6, xi6, xti6, List.forall_mem_cons.mpr ⟨xnf6_0, fun _ h => nomatch h⟩⟩,
    .all fun us hl => match us, hl with | [_, _], _ => rfl,
    funx_mk (st := sx_NotOnce) xlf7 xcf7 xkf7,
    ⟨⟨⟨_, _, _, _, _, _, _, _, _, _, _, _, _, _, _, xl7, by rfl⟩, xsa7, xs7, xt7, xk7⟩, PySem.W.mg_of X G xa7, xi7, xti7, List.forall_mem_cons.mpr ⟨xnf7_0, fun _ h => nomatch h⟩⟩,
    .all fun us hl => match us, hl with | [_, _], _ => rfl,
    funx_mk (st := sx_NoProgram) xlf8 xcf8 xkf8,
    ⟨⟨⟨_, _, _, _, _, _, _, _, _, _, _, _, _, _, _, xl8, by rfl⟩, xsa8, xs8, xt8, xk8⟩, PySem.W.mg_of X G xa8, xi8, xti8, List.forall_mem_cons.mpr ⟨xnf8_0, fun _ h => nomatch h⟩⟩,
    .all fun us hl => match us, hl with | [_, _], _ => rfl,
    ⟨xq0, xr0, xv0⟩,
    List.forall_mem_cons.mpr ⟨⟨I1, xnf1_0⟩, fun _ h => nomatch h⟩,
    List.forall_mem_cons.mpr ⟨⟨I2, xnf2_1⟩, List.forall_mem_cons.mpr ⟨⟨I3, xnf3_1⟩, List.forall_mem_cons.mpr ⟨⟨I4, xnf4_0⟩, fun _ h => nomatch h⟩⟩⟩,
    List.forall_mem_cons.mpr ⟨⟨I2, xnf2_0⟩, List.forall_mem_cons.mpr ⟨⟨I3, xnf3_0⟩, List.forall_mem_cons.mpr ⟨⟨I8, xnf8_0⟩, fun _ h => nomatch h⟩⟩⟩,
    List.forall_mem_cons.mpr ⟨⟨I5, xnf5_0⟩, fun _ h => nomatch h⟩,
    List.forall_mem_cons.mpr ⟨⟨I6, xnf6_0⟩, fun _ h => nomatch h⟩,
    List.forall_mem_cons.mpr ⟨⟨I7, xnf7_0⟩, fun _ h => nomatch h⟩,
    PySem.W.mg_of X G xa0,
    PySem.W.mg_of X G xa1,
    PySem.W.mg_of X G xa2,
    PySem.W.mg_of X G xa3,
    PySem.W.mg_of X G xa4,
    PySem.W.mg_of X G xa5,
    PySem.W.mg_of X G xa6,
    PySem.W.mg_of X G xa7,
    PySem.W.mg_of X G xa8,
    PySem.W.mg_of X G xa9,
    PySem.W.mg_of X G xa10,
    PySem.W.mg_of X G xa11,
    PySem.W.mg_of X G xa12,
    PySem.W.mg_of X G xa13,
    PySem.W.mg_of X G xa14,
    PySem.W.mg_of X G xa15,
    PySem.W.mg_of X G xa16,
    PySem.W.mg_of X G xa17,
    ⟨(ka_cons (b := false) (r := false) (ko_non I4 xn4) ka_nil), List.forall_mem_cons.mpr ⟨⟨I1, (ka_cons (b := false) (r := false) (ko_ref I4 x0_1 xp1_4) ka_nil)⟩, List.forall_mem_cons.mpr ⟨⟨I2, (ka_cons (b := false) (r := false) (ko_ref I4 x0_2 xp2_4) ka_nil)⟩, List.forall_mem_cons.mpr ⟨⟨I3, (ka_cons (b := false) (r := false) (ko_ref I4 x0_3 xp3_4) ka_nil)⟩, List.forall_mem_cons.mpr ⟨⟨I4, (ka_cons (b := true) (r := false) (ko_ref I4 x0_4 x0_4) ka_nil)⟩, List.forall_mem_cons.mpr ⟨⟨I5, (ka_cons (b := false) (r := false) (ko_ref I4 x0_5 xp5_4) ka_nil)⟩, List.forall_mem_cons.mpr ⟨⟨I6, (ka_cons (b := false) (r := false) (ko_ref I4 x0_6 xp6_4) ka_nil)⟩, List.forall_mem_cons.mpr ⟨⟨I7, (ka_cons (b := false) (r := false) (ko_ref I4 x0_7 xp7_4) ka_nil)⟩, List.forall_mem_cons.mpr ⟨⟨I8, (ka_cons (b := false) (r := false) (ko_ref I4 x0_8 xp8_4) ka_nil)⟩, List.forall_mem_cons.mpr ⟨⟨I13, (ka_cons (b := false) (r := false) (ko_ref I4 x0_13 xp13_4) ka_nil)⟩, List.forall_mem_cons.mpr ⟨⟨I14, (ka_cons (b := false) (r := false) (ko_ref I4 x0_14 xp14_4) ka_nil)⟩, List.forall_mem_cons.mpr ⟨⟨I15, (ka_cons (b := false) (r := false) (ko_ref I4 x0_15 xp15_4) ka_nil)⟩, List.forall_mem_cons.mpr ⟨⟨I16, (ka_cons (b := false) (r := false) (ko_ref I4 x0_16 xp16_4) ka_nil)⟩, List.forall_mem_cons.mpr ⟨⟨I17, (ka_cons (b := false) (r := false) (ko_ref I4 x0_17 xp17_4) ka_nil)⟩, List.forall_mem_cons.mpr ⟨⟨I9, (ka_cons (b := false) (r := false) (ko_ref I4 x0_9 xp9_4) ka_nil)⟩, List.forall_mem_cons.mpr ⟨⟨I10, (ka_cons (b := false) (r := false) (ko_ref I4 x0_10 xp10_4) ka_nil)⟩, List.forall_mem_cons.mpr ⟨⟨I11, (ka_cons (b := false) (r := false) (ko_ref I4 x0_11 xp11_4) ka_nil)⟩, List.forall_mem_cons.mpr ⟨⟨I12, (ka_cons (b := false) (r := false) (ko_ref I4 x0_12 xp12_4) ka_nil)⟩, (fun _ h => nomatch h)⟩⟩⟩⟩⟩⟩⟩⟩⟩⟩⟩⟩⟩⟩⟩⟩⟩⟩,
    ⟨(ka_cons (b := false) (r := false) (ko_non I3 xn3) ka_nil), List.forall_mem_cons.mpr ⟨⟨I1, (ka_cons (b := false) (r := false) (ko_ref I3 x0_1 xp1_3) ka_nil)⟩, List.forall_mem_cons.mpr ⟨⟨I2, (ka_cons (b := false) (r := false) (ko_ref I3 x0_2 xp2_3) ka_nil)⟩, List.forall_mem_cons.mpr ⟨⟨I3, (ka_cons (b := true) (r := false) (ko_ref I3 x0_3 x0_3) ka_nil)⟩, List.forall_mem_cons.mpr ⟨⟨I4, (ka_cons (b := false) (r := false) (ko_ref I3 x0_4 xp4_3) ka_nil)⟩, List.forall_mem_cons.mpr ⟨⟨I5, (ka_cons (b := false) (r := false) (ko_ref I3 x0_5 xp5_3) ka_nil)⟩, List.forall_mem_cons.mpr ⟨⟨I6, (ka_cons (b := false) (r := false) (ko_ref I3 x0_6 xp6_3) ka_nil)⟩, List.forall_mem_cons.mpr ⟨⟨I7, (ka_cons (b := false) (r := false) (ko_ref I3 x0_7 xp7_3) ka_nil)⟩, List.forall_mem_cons.mpr ⟨⟨I8, (ka_cons (b := false) (r := false) (ko_ref I3 x0_8 xp8_3) ka_nil)⟩, List.forall_mem_cons.mpr ⟨⟨I13, (ka_cons (b := false) (r := false) (ko_ref I3 x0_13 xp13_3) ka_nil)⟩, List.forall_mem_cons.mpr ⟨⟨I14, (ka_cons (b := false) (r := false) (ko_ref I3 x0_14 xp14_3) ka_nil)⟩, List.forall_mem_cons.mpr ⟨⟨I15, (ka_cons (b := false) (r := false) (ko_ref I3 x0_15 xp15_3) ka_nil)⟩, List.forall_mem_cons.mpr ⟨⟨I16, (ka_cons (b := false) (r := false) (ko_ref I3 x0_16 xp16_3) ka_nil)⟩, List.forall_mem_cons.mpr ⟨⟨I17, (ka_cons (b := false) (r := false) (ko_ref I3 x0_17 xp17_3) ka_nil)⟩, List.forall_mem_cons.mpr ⟨⟨I9, (ka_cons (b := false) (r := false) (ko_ref I3 x0_9 xp9_3) ka_nil)⟩, List.forall_mem_cons.mpr ⟨⟨I10, (ka_cons (b := false) (r := false) (ko_ref I3 x0_10 xp10_3) ka_nil)⟩, List.forall_mem_cons.mpr ⟨⟨I11, (ka_cons (b := false) (r := false) (ko_ref I3 x0_11 xp11_3) ka_nil)⟩, List.forall_mem_cons.mpr ⟨⟨I12, (ka_cons (b := false) (r := false) (ko_ref I3 x0_12 xp12_3) ka_nil)⟩, (fun _ h => nomatch h)⟩⟩⟩⟩⟩⟩⟩⟩⟩⟩⟩⟩⟩⟩⟩⟩⟩⟩,
    ⟨(ka_cons (b := false) (r := false) (ko_non I2 xn2) ka_nil), List.forall_mem_cons.mpr ⟨⟨I1, (ka_cons (b := false) (r := false) (ko_ref I2 x0_1 xp1_2) ka_nil)⟩, List.forall_mem_cons.mpr ⟨⟨I2, (ka_cons (b := true) (r := false) (ko_ref I2 x0_2 x0_2) ka_nil)⟩, List.forall_mem_cons.mpr ⟨⟨I3, (ka_cons (b := false) (r := false) (ko_ref I2 x0_3 xp3_2) ka_nil)⟩, List.forall_mem_cons.mpr ⟨⟨I4, (ka_cons (b := false) (r := false) (ko_ref I2 x0_4 xp4_2) ka_nil)⟩, List.forall_mem_cons.mpr ⟨⟨I5, (ka_cons (b := false) (r := false) (ko_ref I2 x0_5 xp5_2) ka_nil)⟩, List.forall_mem_cons.mpr ⟨⟨I6, (ka_cons (b := false) (r := false) (ko_ref I2 x0_6 xp6_2) ka_nil)⟩, List.forall_mem_cons.mpr ⟨⟨I7, (ka_cons (b := false) (r := false) (ko_ref I2 x0_7 xp7_2) ka_nil)⟩, List.forall_mem_cons.mpr ⟨⟨I8, (ka_cons (b := false) (r := false) (ko_ref I2 x0_8 xp8_2) ka_nil)⟩, List.forall_mem_cons.mpr ⟨⟨I13, (ka_cons (b := false) (r := false) (ko_ref I2 x0_13 xp13_2) ka_nil)⟩, List.forall_mem_cons.mpr ⟨⟨I14, (ka_cons (b := false) (r := false) (ko_ref I2 x0_14 xp14_2) ka_nil)⟩, List.forall_mem_cons.mpr ⟨⟨I15, (ka_cons (b := false) (r := false) (ko_ref I2 x0_15 xp15_2) ka_nil)⟩, List.forall_mem_cons.mpr ⟨⟨I16, (ka_cons (b := false) (r := false) (ko_ref I2 x0_16 xp16_2) ka_nil)⟩, List.forall_mem_cons.mpr ⟨⟨I17, (ka_cons (b := false) (r := false) (ko_ref I2 x0_17 xp17_2) ka_nil)⟩, List.forall_mem_cons.mpr ⟨⟨I9, (ka_cons (b := false) (r := false) (ko_ref I2 x0_9 xp9_2) ka_nil)⟩, List.forall_mem_cons.mpr ⟨⟨I10, (ka_cons (b := false) (r := false) (ko_ref I2 x0_10 xp10_2) ka_nil)⟩, List.forall_mem_cons.mpr ⟨⟨I11, (ka_cons (b := false) (r := false) (ko_ref I2 x0_11 xp11_2) ka_nil)⟩, List.forall_mem_cons.mpr ⟨⟨I12, (ka_cons (b := false) (r := false) (ko_ref I2 x0_12 xp12_2) ka_nil)⟩, (fun _ h => nomatch h)⟩⟩⟩⟩⟩⟩⟩⟩⟩⟩⟩⟩⟩⟩⟩⟩⟩⟩,
    ⟨(ka_cons (b := false) (r := false) (ko_non I1 xn1) ka_nil), List.forall_mem_cons.mpr ⟨⟨I1, (ka_cons (b := true) (r := false) (ko_ref I1 x0_1 x0_1) ka_nil)⟩, List.forall_mem_cons.mpr ⟨⟨I2, (ka_cons (b := false) (r := false) (ko_ref I1 x0_2 xp2_1) ka_nil)⟩, List.forall_mem_cons.mpr ⟨⟨I3, (ka_cons (b := false) (r := false) (ko_ref I1 x0_3 xp3_1) ka_nil)⟩, List.forall_mem_cons.mpr ⟨⟨I4, (ka_cons (b := false) (r := false) (ko_ref I1 x0_4 xp4_1) ka_nil)⟩, List.forall_mem_cons.mpr ⟨⟨I5, (ka_cons (b := false) (r := false) (ko_ref I1 x0_5 xp5_1) ka_nil)⟩, List.forall_mem_cons.mpr ⟨⟨I6, (ka_cons (b := false) (r := false) (ko_ref I1 x0_6 xp6_1) ka_nil)⟩, List.forall_mem_cons.mpr ⟨⟨I7, (ka_cons (b := false) (r := false) (ko_ref I1 x0_7 xp7_1) ka_nil)⟩, List.forall_mem_cons.mpr ⟨⟨I8, (ka_cons (b := false) (r := false) (ko_ref I1 x0_8 xp8_1) ka_nil)⟩, List.forall_mem_cons.mpr ⟨⟨I13, (ka_cons (b := false) (r := false) (ko_ref I1 x0_13 xp13_1) ka_nil)⟩, List.forall_mem_cons.mpr ⟨⟨I14, (ka_cons (b := false) (r := false) (ko_ref I1 x0_14 xp14_1) ka_nil)⟩, List.forall_mem_cons.mpr ⟨⟨I15, (ka_cons (b := false) (r := false) (ko_ref I1 x0_15 xp15_1) ka_nil)⟩, List.forall_mem_cons.mpr ⟨⟨I16, (ka_cons (b := false) (r := false) (ko_ref I1 x0_16 xp16_1) ka_nil)⟩, List.forall_mem_cons.mpr ⟨⟨I17, (ka_cons (b := false) (r := false) (ko_ref I1 x0_17 xp17_1) ka_nil)⟩, List.forall_mem_cons.mpr ⟨⟨I9, (ka_cons (b := false) (r := false) (ko_ref I1 x0_9 xp9_1) ka_nil)⟩, List.forall_mem_cons.mpr ⟨⟨I10, (ka_cons (b := false) (r := false) (ko_ref I1 x0_10 xp10_1) ka_nil)⟩, List.forall_mem_cons.mpr ⟨⟨I11, (ka_cons (b := false) (r := false) (ko_ref I1 x0_11 xp11_1) ka_nil)⟩, List.forall_mem_cons.mpr ⟨⟨I12, (ka_cons (b := false) (r := false) (ko_ref I1 x0_12 xp12_1) ka_nil)⟩, (fun _ h => nomatch h)⟩⟩⟩⟩⟩⟩⟩⟩⟩⟩⟩⟩⟩⟩⟩⟩⟩⟩,
    ⟨(ka_cons (b := false) (r := false) (ko_non I8 xn8) ka_nil), List.forall_mem_cons.mpr ⟨⟨I1, (ka_cons (b := false) (r := false) (ko_ref I8 x0_1 xp1_8) ka_nil)⟩, List.forall_mem_cons.mpr ⟨⟨I2, (ka_cons (b := false) (r := false) (ko_ref I8 x0_2 xp2_8) ka_nil)⟩, List.forall_mem_cons.mpr ⟨⟨I3, (ka_cons (b := false) (r := false) (ko_ref I8 x0_3 xp3_8) ka_nil)⟩, List.forall_mem_cons.mpr ⟨⟨I4, (ka_cons (b := false) (r := false) (ko_ref I8 x0_4 xp4_8) ka_nil)⟩, List.forall_mem_cons.mpr ⟨⟨I5, (ka_cons (b := false) (r := false) (ko_ref I8 x0_5 xp5_8) ka_nil)⟩, List.forall_mem_cons.mpr ⟨⟨I6, (ka_cons (b := false) (r := false) (ko_ref I8 x0_6 xp6_8) ka_nil)⟩, List.forall_mem_cons.mpr ⟨⟨I7, (ka_cons (b := false) (r := false) (ko_ref I8 x0_7 xp7_8) ka_nil)⟩, List.forall_mem_cons.mpr ⟨⟨I8, (ka_cons (b := true) (r := false) (ko_ref I8 x0_8 x0_8) ka_nil)⟩, List.forall_mem_cons.mpr ⟨⟨I13, (ka_cons (b := false) (r := false) (ko_ref I8 x0_13 xp13_8) ka_nil)⟩, List.forall_mem_cons.mpr ⟨⟨I14, (ka_cons (b := false) (r := false) (ko_ref I8 x0_14 xp14_8) ka_nil)⟩, List.forall_mem_cons.mpr ⟨⟨I15, (ka_cons (b := false) (r := false) (ko_ref I8 x0_15 xp15_8) ka_nil)⟩, List.forall_mem_cons.mpr ⟨⟨I16, (ka_cons (b := false) (r := false) (ko_ref I8 x0_16 xp16_8) ka_nil)⟩, List.forall_mem_cons.mpr ⟨⟨I17, (ka_cons (b := false) (r := false) (ko_ref I8 x0_17 xp17_8) ka_nil)⟩, List.forall_mem_cons.mpr ⟨⟨I9, (ka_cons (b := false) (r := false) (ko_ref I8 x0_9 xp9_8) ka_nil)⟩, List.forall_mem_cons.mpr ⟨⟨I10, (ka_cons (b := false) (r := false) (ko_ref I8 x0_10 xp10_8) ka_nil)⟩, List.forall_mem_cons.mpr ⟨⟨I11, (ka_cons (b := false) (r := false) (ko_ref I8 x0_11 xp11_8) ka_nil)⟩, List.forall_mem_cons.mpr ⟨⟨I12, (ka_cons (b := false) (r := false) (ko_ref I8 x0_12 xp12_8) ka_nil)⟩, (fun _ h => nomatch h)⟩⟩⟩⟩⟩⟩⟩⟩⟩⟩⟩⟩⟩⟩⟩⟩⟩⟩,
    ⟨(ka_cons (b := false) (r := false) (ko_non I7 xn7) ka_nil), List.forall_mem_cons.mpr ⟨⟨I1, (ka_cons (b := false) (r := false) (ko_ref I7 x0_1 xp1_7) ka_nil)⟩, List.forall_mem_cons.mpr ⟨⟨I2, (ka_cons (b := false) (r := false) (ko_ref I7 x0_2 xp2_7) ka_nil)⟩, List.forall_mem_cons.mpr ⟨⟨I3, (ka_cons (b := false) (r := false) (ko_ref I7 x0_3 xp3_7) ka_nil)⟩, List.forall_mem_cons.mpr ⟨⟨I4, (ka_cons (b := false) (r := false) (ko_ref I7 x0_4 xp4_7) ka_nil)⟩, List.forall_mem_cons.mpr ⟨⟨I5, (ka_cons (b := false) (r := false) (ko_ref I7 x0_5 xp5_7) ka_nil)⟩, List.forall_mem_cons.mpr ⟨⟨I6, (ka_cons (b := false) (r := false) (ko_ref I7 x0_6 xp6_7) ka_nil)⟩, List.forall_mem_cons.mpr ⟨⟨I7, (ka_cons (b := true) (r := false) (ko_ref I7 x0_7 x0_7) ka_nil)⟩, List.forall_mem_cons.mpr ⟨⟨I8, (ka_cons (b := false) (r := false) (ko_ref I7 x0_8 xp8_7) ka_nil)⟩, List.forall_mem_cons.mpr ⟨⟨I13, (ka_cons (b := false) (r := false) (ko_ref I7 x0_13 xp13_7) ka_nil)⟩, List.forall_mem_cons.mpr ⟨⟨I14, (ka_cons (b := false) (r := false) (ko_ref I7 x0_14 xp14_7) ka_nil)⟩, List.forall_mem_cons.mpr ⟨⟨I15, (ka_cons (b := false) (r := false) (ko_ref I7 x0_15 xp15_7) ka_nil)⟩, List.forall_mem_cons.mpr ⟨⟨I16, (ka_cons (b := false) (r := false) (ko_ref I7 x0_16 xp16_7) ka_nil)⟩, List.forall_mem_cons.mpr ⟨⟨I17, (ka_cons (b := false) (r := false) (ko_ref I7 x0_17 xp17_7) ka_nil)⟩, List.forall_mem_cons.mpr ⟨⟨I9, (ka_cons (b := false) (r := false) (ko_ref I7 x0_9 xp9_7) ka_nil)⟩, List.forall_mem_cons.mpr ⟨⟨I10, (ka_cons (b := false) (r := false) (ko_ref I7 x0_10 xp10_7) ka_nil)⟩, List.forall_mem_cons.mpr ⟨⟨I11, (ka_cons (b := false) (r := false) (ko_ref I7 x0_11 xp11_7) ka_nil)⟩, List.forall_mem_cons.mpr ⟨⟨I12, (ka_cons (b := false) (r := false) (ko_ref I7 x0_12 xp12_7) ka_nil)⟩, (fun _ h => nomatch h)⟩⟩⟩⟩⟩⟩⟩⟩⟩⟩⟩⟩⟩⟩⟩⟩⟩⟩,
    ⟨(ka_cons (b := false) (r := false) (ko_non I6 xn6) ka_nil), List.forall_mem_cons.mpr ⟨⟨I1, (ka_cons (b := false) (r := false) (ko_ref I6 x0_1 xp1_6) ka_nil)⟩, List.forall_mem_cons.mpr ⟨⟨I2, (ka_cons (b := false) (r := false) (ko_ref I6 x0_2 xp2_6) ka_nil)⟩, List.forall_mem_cons.mpr ⟨⟨I3, (ka_cons (b := false) (r := false) (ko_ref I6 x0_3 xp3_6) ka_nil)⟩, List.forall_mem_cons.mpr ⟨⟨I4, (ka_cons (b := false) (r := false) (ko_ref I6 x0_4 xp4_6) ka_nil)⟩, List.forall_mem_cons.mpr ⟨⟨I5, (ka_cons (b := false) (r := false) (ko_ref I6 x0_5 xp5_6) ka_nil)⟩, List.forall_mem_cons.mpr ⟨⟨I6, (ka_cons (b := true) (r := false) (ko_ref I6 x0_6 x0_6) ka_nil)⟩, List.forall_mem_cons.mpr ⟨⟨I7, (ka_cons (b := false) (r := false) (ko_ref I6 x0_7 xp7_6) ka_nil)⟩, List.forall_mem_cons.mpr ⟨⟨I8, (ka_cons (b := false) (r := false) (ko_ref I6 x0_8 xp8_6) ka_nil)⟩, List.forall_mem_cons.mpr ⟨⟨I13, (ka_cons (b := false) (r := false) (ko_ref I6 x0_13 xp13_6) ka_nil)⟩, List.forall_mem_cons.mpr ⟨⟨I14, (ka_cons (b := false) (r := false) (ko_ref I6 x0_14 xp14_6) ka_nil)⟩, List.forall_mem_cons.mpr ⟨⟨I15, (ka_cons (b := false) (r := false) (ko_ref I6 x0_15 xp15_6) ka_nil)⟩, List.forall_mem_cons.mpr ⟨⟨I16, (ka_cons (b := false) (r := false) (ko_ref I6 x0_16 xp16_6) ka_nil)⟩, List.forall_mem_cons.mpr ⟨⟨I17, (ka_cons (b := false) (r := false) (ko_ref I6 x0_17 xp17_6) ka_nil)⟩, List.forall_mem_cons.mpr ⟨⟨I9, (ka_cons (b := false) (r := false) (ko_ref I6 x0_9 xp9_6) ka_nil)⟩, List.forall_mem_cons.mpr ⟨⟨I10, (ka_cons (b := false) (r := false) (ko_ref I6 x0_10 xp10_6) ka_nil)⟩, List.forall_mem_cons.mpr ⟨⟨I11, (ka_cons (b := false) (r := false) (ko_ref I6 x0_11 xp11_6) ka_nil)⟩, List.forall_mem_cons.mpr ⟨⟨I12, (ka_cons (b := false) (r := false) (ko_ref I6 x0_12 xp12_6) ka_nil)⟩, (fun _ h => nomatch h)⟩⟩⟩⟩⟩⟩⟩⟩⟩⟩⟩⟩⟩⟩⟩⟩⟩⟩,
    ⟨(ka_cons (b := false) (r := false) (ko_non I5 xn5) ka_nil), List.forall_mem_cons.mpr ⟨⟨I1, (ka_cons (b := false) (r := false) (ko_ref I5 x0_1 xp1_5) ka_nil)⟩, List.forall_mem_cons.mpr ⟨⟨I2, (ka_cons (b := false) (r := false) (ko_ref I5 x0_2 xp2_5) ka_nil)⟩, List.forall_mem_cons.mpr ⟨⟨I3, (ka_cons (b := false) (r := false) (ko_ref I5 x0_3 xp3_5) ka_nil)⟩, List.forall_mem_cons.mpr ⟨⟨I4, (ka_cons (b := false) (r := false) (ko_ref I5 x0_4 xp4_5) ka_nil)⟩, List.forall_mem_cons.mpr ⟨⟨I5, (ka_cons (b := true) (r := false) (ko_ref I5 x0_5 x0_5) ka_nil)⟩, List.forall_mem_cons.mpr ⟨⟨I6, (ka_cons (b := false) (r := false) (ko_ref I5 x0_6 xp6_5) ka_nil)⟩, List.forall_mem_cons.mpr ⟨⟨I7, (ka_cons (b := false) (r := false) (ko_ref I5 x0_7 xp7_5) ka_nil)⟩, List.forall_mem_cons.mpr ⟨⟨I8, (ka_cons (b := false) (r := false) (ko_ref I5 x0_8 xp8_5) ka_nil)⟩, List.forall_mem_cons.mpr ⟨⟨I13, (ka_cons (b := false) (r := false) (ko_ref I5 x0_13 xp13_5) ka_nil)⟩, List.forall_mem_cons.mpr ⟨⟨I14, (ka_cons (b := false) (r := false) (ko_ref I5 x0_14 xp14_5) ka_nil)⟩, List.forall_mem_cons.mpr ⟨⟨I15, (ka_cons (b := false) (r := false) (ko_ref I5 x0_15 xp15_5) ka_nil)⟩, List.forall_mem_cons.mpr ⟨⟨I16, (ka_cons (b := false) (r := false) (ko_ref I5 x0_16 xp16_5) ka_nil)⟩, List.forall_mem_cons.mpr ⟨⟨I17, (ka_cons (b := false) (r := false) (ko_ref I5 x0_17 xp17_5) ka_nil)⟩, List.forall_mem_cons.mpr ⟨⟨I9, (ka_cons (b := false) (r := false) (ko_ref I5 x0_9 xp9_5) ka_nil)⟩, List.forall_mem_cons.mpr ⟨⟨I10, (ka_cons (b := false) (r := false) (ko_ref I5 x0_10 xp10_5) ka_nil)⟩, List.forall_mem_cons.mpr ⟨⟨I11, (ka_cons (b := false) (r := false) (ko_ref I5 x0_11 xp11_5) ka_nil)⟩, List.forall_mem_cons.mpr ⟨⟨I12, (ka_cons (b := false) (r := false) (ko_ref I5 x0_12 xp12_5) ka_nil)⟩, (fun _ h => nomatch h)⟩⟩⟩⟩⟩⟩⟩⟩⟩⟩⟩⟩⟩⟩⟩⟩⟩⟩,
    ⟨(ka_cons (b := false) (r := false) (ko_non I12 xn12) ka_nil), List.forall_mem_cons.mpr ⟨⟨I1, (ka_cons (b := false) (r := false) (ko_ref I12 x0_1 xp1_12) ka_nil)⟩, List.forall_mem_cons.mpr ⟨⟨I2, (ka_cons (b := false) (r := false) (ko_ref I12 x0_2 xp2_12) ka_nil)⟩, List.forall_mem_cons.mpr ⟨⟨I3, (ka_cons (b := false) (r := false) (ko_ref I12 x0_3 xp3_12) ka_nil)⟩, List.forall_mem_cons.mpr ⟨⟨I4, (ka_cons (b := false) (r := false) (ko_ref I12 x0_4 xp4_12) ka_nil)⟩, List.forall_mem_cons.mpr ⟨⟨I5, (ka_cons (b := false) (r := false) (ko_ref I12 x0_5 xp5_12) ka_nil)⟩, List.forall_mem_cons.mpr ⟨⟨I6, (ka_cons (b := false) (r := false) (ko_ref I12 x0_6 xp6_12) ka_nil)⟩, List.forall_mem_cons.mpr ⟨⟨I7, (ka_cons (b := false) (r := false) (ko_ref I12 x0_7 xp7_12) ka_nil)⟩, List.forall_mem_cons.mpr ⟨⟨I8, (ka_cons (b := false) (r := false) (ko_ref I12 x0_8 xp8_12) ka_nil)⟩, List.forall_mem_cons.mpr ⟨⟨I13, (ka_cons (b := false) (r := false) (ko_ref I12 x0_13 xp13_12) ka_nil)⟩, List.forall_mem_cons.mpr ⟨⟨I14, (ka_cons (b := false) (r := false) (ko_ref I12 x0_14 xp14_12) ka_nil)⟩, List.forall_mem_cons.mpr ⟨⟨I15, (ka_cons (b := false) (r := false) (ko_ref I12 x0_15 xp15_12) ka_nil)⟩, List.forall_mem_cons.mpr ⟨⟨I16, (ka_cons (b := false) (r := false) (ko_ref I12 x0_16 xp16_12) ka_nil)⟩, List.forall_mem_cons.mpr ⟨⟨I17, (ka_cons (b := false) (r := false) (ko_ref I12 x0_17 xp17_12) ka_nil)⟩, List.forall_mem_cons.mpr ⟨⟨I9, (ka_cons (b := false) (r := false) (ko_ref I12 x0_9 xp9_12) ka_nil)⟩, List.forall_mem_cons.mpr ⟨⟨I10, (ka_cons (b := false) (r := false) (ko_ref I12 x0_10 xp10_12) ka_nil)⟩, List.forall_mem_cons.mpr ⟨⟨I11, (ka_cons (b := false) (r := false) (ko_ref I12 x0_11 xp11_12) ka_nil)⟩, List.forall_mem_cons.mpr ⟨⟨I12, (ka_cons (b := true) (r := false) (ko_ref I12 x0_12 x0_12) ka_nil)⟩, (fun _ h => nomatch h)⟩⟩⟩⟩⟩⟩⟩⟩⟩⟩⟩⟩⟩⟩⟩⟩⟩⟩,
    ⟨(ka_cons (b := false) (r := false) (ko_non I11 xn11) ka_nil), List.forall_mem_cons.mpr ⟨⟨I1, (ka_cons (b := false) (r := false) (ko_ref I11 x0_1 xp1_11) ka_nil)⟩, List.forall_mem_cons.mpr ⟨⟨I2, (ka_cons (b := false) (r := false) (ko_ref I11 x0_2 xp2_11) ka_nil)⟩, List.forall_mem_cons.mpr ⟨⟨I3, (ka_cons (b := false) (r := false) (ko_ref I11 x0_3 xp3_11) ka_nil)⟩, List.forall_mem_cons.mpr ⟨⟨I4, (ka_cons (b := false) (r := false) (ko_ref I11 x0_4 xp4_11) ka_nil)⟩, List.forall_mem_cons.mpr ⟨⟨I5, (ka_cons (b := false) (r := false) (ko_ref I11 x0_5 xp5_11) ka_nil)⟩, List.forall_mem_cons.mpr ⟨⟨I6, (ka_cons (b := false) (r := false) (ko_ref I11 x0_6 xp6_11) ka_nil)⟩, List.forall_mem_cons.mpr ⟨⟨I7, (ka_cons (b := false) (r := false) (ko_ref I11 x0_7 xp7_11) ka_nil)⟩, List.forall_mem_cons.mpr ⟨⟨I8, (ka_cons (b := false) (r := false) (ko_ref I11 x0_8 xp8_11) ka_nil)⟩, List.forall_mem_cons.mpr ⟨⟨I13, (ka_cons (b := false) (r := false) (ko_ref I11 x0_13 xp13_11) ka_nil)⟩, List.forall_mem_cons.mpr ⟨⟨I14, (ka_cons (b := false) (r := false) (ko_ref I11 x0_14 xp14_11) ka_nil)⟩, List.forall_mem_cons.mpr ⟨⟨I15, (ka_cons (b := false) (r := false) (ko_ref I11 x0_15 xp15_11) ka_nil)⟩, List.forall_mem_cons.mpr ⟨⟨I16, (ka_cons (b := false) (r := false) (ko_ref I11 x0_16 xp16_11) ka_nil)⟩, List.forall_mem_cons.mpr ⟨⟨I17, (ka_cons (b := false) (r := false) (ko_ref I11 x0_17 xp17_11) ka_nil)⟩, List.forall_mem_cons.mpr ⟨⟨I9, (ka_cons (b := false) (r := false) (ko_ref I11 x0_9 xp9_11) ka_nil)⟩, List.forall_mem_cons.mpr ⟨⟨I10, (ka_cons (b := false) (r := false) (ko_ref I11 x0_10 xp10_11) ka_nil)⟩, List.forall_mem_cons.mpr ⟨⟨I11, (ka_cons (b := true) (r := false) (ko_ref I11 x0_11 x0_11) ka_nil)⟩, List.forall_mem_cons.mpr ⟨⟨I12, (ka_cons (b := false) (r := false) (ko_ref I11 x0_12 xp12_11) ka_nil)⟩, (fun _ h => nomatch h)⟩⟩⟩⟩⟩⟩⟩⟩⟩⟩⟩⟩⟩⟩⟩⟩⟩⟩,
    ⟨(ka_cons (b := false) (r := false) (ko_non I10 xn10) ka_nil), List.forall_mem_cons.mpr ⟨⟨I1, (ka_cons (b := false) (r := false) (ko_ref I10 x0_1 xp1_10) ka_nil)⟩, List.forall_mem_cons.mpr ⟨⟨I2, (ka_cons (b := false) (r := false) (ko_ref I10 x0_2 xp2_10) ka_nil)⟩, List.forall_mem_cons.mpr ⟨⟨I3, (ka_cons (b := false) (r := false) (ko_ref I10 x0_3 xp3_10) ka_nil)⟩, List.forall_mem_cons.mpr ⟨⟨I4, (ka_cons (b := false) (r := false) (ko_ref I10 x0_4 xp4_10) ka_nil)⟩, List.forall_mem_cons.mpr ⟨⟨I5, (ka_cons (b := false) (r := false) (ko_ref I10 x0_5 xp5_10) ka_nil)⟩, List.forall_mem_cons.mpr ⟨⟨I6, (ka_cons (b := false) (r := false) (ko_ref I10 x0_6 xp6_10) ka_nil)⟩, List.forall_mem_cons.mpr ⟨⟨I7, (ka_cons (b := false) (r := false) (ko_ref I10 x0_7 xp7_10) ka_nil)⟩, List.forall_mem_cons.mpr ⟨⟨I8, (ka_cons (b := false) (r := false) (ko_ref I10 x0_8 xp8_10) ka_nil)⟩, List.forall_mem_cons.mpr ⟨⟨I13, (ka_cons (b := false) (r := false) (ko_ref I10 x0_13 xp13_10) ka_nil)⟩, List.forall_mem_cons.mpr ⟨⟨I14, (ka_cons (b := false) (r := false) (ko_ref I10 x0_14 xp14_10) ka_nil)⟩, List.forall_mem_cons.mpr ⟨⟨I15, (ka_cons (b := false) (r := false) (ko_ref I10 x0_15 xp15_10) ka_nil)⟩, List.forall_mem_cons.mpr ⟨⟨I16, (ka_cons (b := false) (r := false) (ko_ref I10 x0_16 xp16_10) ka_nil)⟩, List.forall_mem_cons.mpr ⟨⟨I17, (ka_cons (b := false) (r := false) (ko_ref I10 x0_17 xp17_10) ka_nil)⟩, List.forall_mem_cons.mpr ⟨⟨I9, (ka_cons (b := false) (r := false) (ko_ref I10 x0_9 xp9_10) ka_nil)⟩, List.forall_mem_cons.mpr ⟨⟨I10, (ka_cons (b := true) (r := false) (ko_ref I10 x0_10 x0_10) ka_nil)⟩, List.forall_mem_cons.mpr ⟨⟨I11, (ka_cons (b := false) (r := false) (ko_ref I10 x0_11 xp11_10) ka_nil)⟩, List.forall_mem_cons.mpr ⟨⟨I12, (ka_cons (b := false) (r := false) (ko_ref I10 x0_12 xp12_10) ka_nil)⟩, (fun _ h => nomatch h)⟩⟩⟩⟩⟩⟩⟩⟩⟩⟩⟩⟩⟩⟩⟩⟩⟩⟩,
    ⟨(ka_cons (b := false) (r := false) (ko_non I9 xn9) ka_nil), List.forall_mem_cons.mpr ⟨⟨I1, (ka_cons (b := false) (r := false) (ko_ref I9 x0_1 xp1_9) ka_nil)⟩, List.forall_mem_cons.mpr ⟨⟨I2, (ka_cons (b := false) (r := false) (ko_ref I9 x0_2 xp2_9) ka_nil)⟩, List.forall_mem_cons.mpr ⟨⟨I3, (ka_cons (b := false) (r := false) (ko_ref I9 x0_3 xp3_9) ka_nil)⟩, List.forall_mem_cons.mpr ⟨⟨I4, (ka_cons (b := false) (r := false) (ko_ref I9 x0_4 xp4_9) ka_nil)⟩, List.forall_mem_cons.mpr ⟨⟨I5, (ka_cons (b := false) (r := false) (ko_ref I9 x0_5 xp5_9) ka_nil)⟩, List.forall_mem_cons.mpr ⟨⟨I6, (ka_cons (b := false) (r := false) (ko_ref I9 x0_6 xp6_9) ka_nil)⟩, List.forall_mem_cons.mpr ⟨⟨I7, (ka_cons (b := false) (r := false) (ko_ref I9 x0_7 xp7_9) ka_nil)⟩, List.forall_mem_cons.mpr ⟨⟨I8, (ka_cons (b := false) (r := false) (ko_ref I9 x0_8 xp8_9) ka_nil)⟩, List.forall_mem_cons.mpr ⟨⟨I13, (ka_cons (b := false) (r := false) (ko_ref I9 x0_13 xp13_9) ka_nil)⟩, List.forall_mem_cons.mpr ⟨⟨I14, (ka_cons (b := false) (r := false) (ko_ref I9 x0_14 xp14_9) ka_nil)⟩, List.forall_mem_cons.mpr ⟨⟨I15, (ka_cons (b := false) (r := false) (ko_ref I9 x0_15 xp15_9) ka_nil)⟩, List.forall_mem_cons.mpr ⟨⟨I16, (ka_cons (b := false) (r := false) (ko_ref I9 x0_16 xp16_9) ka_nil)⟩, List.forall_mem_cons.mpr ⟨⟨I17, (ka_cons (b := false) (r := false) (ko_ref I9 x0_17 xp17_9) ka_nil)⟩, List.forall_mem_cons.mpr ⟨⟨I9, (ka_cons (b := true) (r := false) (ko_ref I9 x0_9 x0_9) ka_nil)⟩, List.forall_mem_cons.mpr ⟨⟨I10, (ka_cons (b := false) (r := false) (ko_ref I9 x0_10 xp10_9) ka_nil)⟩, List.forall_mem_cons.mpr ⟨⟨I11, (ka_cons (b := false) (r := false) (ko_ref I9 x0_11 xp11_9) ka_nil)⟩, List.forall_mem_cons.mpr ⟨⟨I12, (ka_cons (b := false) (r := false) (ko_ref I9 x0_12 xp12_9) ka_nil)⟩, (fun _ h => nomatch h)⟩⟩⟩⟩⟩⟩⟩⟩⟩⟩⟩⟩⟩⟩⟩⟩⟩⟩,
    ⟨(ka_cons (b := false) (r := false) (ko_non I16 xn16) ka_nil), List.forall_mem_cons.mpr ⟨⟨I1, (ka_cons (b := false) (r := false) (ko_ref I16 x0_1 xp1_16) ka_nil)⟩, List.forall_mem_cons.mpr ⟨⟨I2, (ka_cons (b := false) (r := false) (ko_ref I16 x0_2 xp2_16) ka_nil)⟩, List.forall_mem_cons.mpr ⟨⟨I3, (ka_cons (b := false) (r := false) (ko_ref I16 x0_3 xp3_16) ka_nil)⟩, List.forall_mem_cons.mpr ⟨⟨I4, (ka_cons (b := false) (r := false) (ko_ref I16 x0_4 xp4_16) ka_nil)⟩, List.forall_mem_cons.mpr ⟨⟨I5, (ka_cons (b := false) (r := false) (ko_ref I16 x0_5 xp5_16) ka_nil)⟩, List.forall_mem_cons.mpr ⟨⟨I6, (ka_cons (b := false) (r := false) (ko_ref I16 x0_6 xp6_16) ka_nil)⟩, List.forall_mem_cons.mpr ⟨⟨I7, (ka_cons (b := false) (r := false) (ko_ref I16 x0_7 xp7_16) ka_nil)⟩, List.forall_mem_cons.mpr ⟨⟨I8, (ka_cons (b := false) (r := false) (ko_ref I16 x0_8 xp8_16) ka_nil)⟩, List.forall_mem_cons.mpr ⟨⟨I13, (ka_cons (b := false) (r := false) (ko_ref I16 x0_13 xp13_16) ka_nil)⟩, List.forall_mem_cons.mpr ⟨⟨I14, (ka_cons (b := false) (r := false) (ko_ref I16 x0_14 xp14_16) ka_nil)⟩, List.forall_mem_cons.mpr ⟨⟨I15, (ka_cons (b := false) (r := false) (ko_ref I16 x0_15 xp15_16) ka_nil)⟩, List.forall_mem_cons.mpr ⟨⟨I16, (ka_cons (b := true) (r := false) (ko_ref I16 x0_16 x0_16) ka_nil)⟩, List.forall_mem_cons.mpr ⟨⟨I17, (ka_cons (b := false) (r := false) (ko_ref I16 x0_17 xp17_16) ka_nil)⟩, List.forall_mem_cons.mpr ⟨⟨I9, (ka_cons (b := false) (r := false) (ko_ref I16 x0_9 xp9_16) ka_nil)⟩, List.forall_mem_cons.mpr ⟨⟨I10, (ka_cons (b := false) (r := false) (ko_ref I16 x0_10 xp10_16) ka_nil)⟩, List.forall_mem_cons.mpr ⟨⟨I11, (ka_cons (b := false) (r := false) (ko_ref I16 x0_11 xp11_16) ka_nil)⟩, List.forall_mem_cons.mpr ⟨⟨I12, (ka_cons (b := false) (r := false) (ko_ref I16 x0_12 xp12_16) ka_nil)⟩, (fun _ h => nomatch h)⟩⟩⟩⟩⟩⟩⟩⟩⟩⟩⟩⟩⟩⟩⟩⟩⟩⟩,
    ⟨(ka_cons (b := false) (r := false) (ko_non I15 xn15) ka_nil), List.forall_mem_cons.mpr ⟨⟨I1, (ka_cons (b := false) (r := false) (ko_ref I15 x0_1 xp1_15) ka_nil)⟩, List.forall_mem_cons.mpr ⟨⟨I2, (ka_cons (b := false) (r := false) (ko_ref I15 x0_2 xp2_15) ka_nil)⟩, List.forall_mem_cons.mpr ⟨⟨I3, (ka_cons (b := false) (r := false) (ko_ref I15 x0_3 xp3_15) ka_nil)⟩, List.forall_mem_cons.mpr ⟨⟨I4, (ka_cons (b := false) (r := false) (ko_ref I15 x0_4 xp4_15) ka_nil)⟩, List.forall_mem_cons.mpr ⟨⟨I5, (ka_cons (b := false) (r := false) (ko_ref I15 x0_5 xp5_15) ka_nil)⟩, List.forall_mem_cons.mpr ⟨⟨I6, (ka_cons (b := false) (r := false) (ko_ref I15 x0_6 xp6_15) ka_nil)⟩, List.forall_mem_cons.mpr ⟨⟨I7, (ka_cons (b := false) (r := false) (ko_ref I15 x0_7 xp7_15) ka_nil)⟩, List.forall_mem_cons.mpr ⟨⟨I8, (ka_cons (b := false) (r := false) (ko_ref I15 x0_8 xp8_15) ka_nil)⟩, List.forall_mem_cons.mpr ⟨⟨I13, (ka_cons (b := false) (r := false) (ko_ref I15 x0_13 xp13_15) ka_nil)⟩, List.forall_mem_cons.mpr ⟨⟨I14, (ka_cons (b := false) (r := false) (ko_ref I15 x0_14 xp14_15) ka_nil)⟩, List.forall_mem_cons.mpr ⟨⟨I15, (ka_cons (b := true) (r := false) (ko_ref I15 x0_15 x0_15) ka_nil)⟩, List.forall_mem_cons.mpr ⟨⟨I16, (ka_cons (b := false) (r := false) (ko_ref I15 x0_16 xp16_15) ka_nil)⟩, List.forall_mem_cons.mpr ⟨⟨I17, (ka_cons (b := false) (r := false) (ko_ref I15 x0_17 xp17_15) ka_nil)⟩, List.forall_mem_cons.mpr ⟨⟨I9, (ka_cons (b := false) (r := false) (ko_ref I15 x0_9 xp9_15) ka_nil)⟩, List.forall_mem_cons.mpr ⟨⟨I10, (ka_cons (b := false) (r := false) (ko_ref I15 x0_10 xp10_15) ka_nil)⟩, List.forall_mem_cons.mpr ⟨⟨I11, (ka_cons (b := false) (r := false) (ko_ref I15 x0_11 xp11_15) ka_nil)⟩, List.forall_mem_cons.mpr ⟨⟨I12, (ka_cons (b := false) (r := false) (ko_ref I15 x0_12 xp12_15) ka_nil)⟩, (fun _ h => nomatch h)⟩⟩⟩⟩⟩⟩⟩⟩⟩⟩⟩⟩⟩⟩⟩⟩⟩⟩,
    ⟨(ka_cons (b := false) (r := false) (ko_non I14 xn14) ka_nil), List.forall_mem_cons.mpr ⟨⟨I1, (ka_cons (b := false) (r := false) (ko_ref I14 x0_1 xp1_14) ka_nil)⟩, List.forall_mem_cons.mpr ⟨⟨I2, (ka_cons (b := false) (r := false) (ko_ref I14 x0_2 xp2_14) ka_nil)⟩, List.forall_mem_cons.mpr ⟨⟨I3, (ka_cons (b := false) (r := false) (ko_ref I14 x0_3 xp3_14) ka_nil)⟩, List.forall_mem_cons.mpr ⟨⟨I4, (ka_cons (b := false) (r := false) (ko_ref I14 x0_4 xp4_14) ka_nil)⟩, List.forall_mem_cons.mpr ⟨⟨I5, (ka_cons (b := false) (r := false) (ko_ref I14 x0_5 xp5_14) ka_nil)⟩, List.forall_mem_cons.mpr ⟨⟨I6, (ka_cons (b := false) (r := false) (ko_ref I14 x0_6 xp6_14) ka_nil)⟩, List.forall_mem_cons.mpr ⟨⟨I7, (ka_cons (b := false) (r := false) (ko_ref I14 x0_7 xp7_14) ka_nil)⟩, List.forall_mem_cons.mpr ⟨⟨I8, (ka_cons (b := false) (r := false) (ko_ref I14 x0_8 xp8_14) ka_nil)⟩, List.forall_mem_cons.mpr ⟨⟨I13, (ka_cons (b := false) (r := false) (ko_ref I14 x0_13 xp13_14) ka_nil)⟩, List.forall_mem_cons.mpr ⟨⟨I14, (ka_cons (b := true) (r := false) (ko_ref I14 x0_14 x0_14) ka_nil)⟩, List.forall_mem_cons.mpr ⟨⟨I15, (ka_cons (b := false) (r := false) (ko_ref I14 x0_15 xp15_14) ka_nil)⟩, List.forall_mem_cons.mpr ⟨⟨I16, (ka_cons (b := false) (r := false) (ko_ref I14 x0_16 xp16_14) ka_nil)⟩, List.forall_mem_cons.mpr ⟨⟨I17, (ka_cons (b := false) (r := false) (ko_ref I14 x0_17 xp17_14) ka_nil)⟩, List.forall_mem_cons.mpr ⟨⟨I9, (ka_cons (b := false) (r := false) (ko_ref I14 x0_9 xp9_14) ka_nil)⟩, List.forall_mem_cons.mpr ⟨⟨I10, (ka_cons (b := false) (r := false) (ko_ref I14 x0_10 xp10_14) ka_nil)⟩, List.forall_mem_cons.mpr ⟨⟨I11, (ka_cons (b := false) (r := false) (ko_ref I14 x0_11 xp11_14) ka_nil)⟩, List.forall_mem_cons.mpr ⟨⟨I12, (ka_cons (b := false) (r := false) (ko_ref I14 x0_12 xp12_14) ka_nil)⟩, (fun _ h => nomatch h)⟩⟩⟩⟩⟩⟩⟩⟩⟩⟩⟩⟩⟩⟩⟩⟩⟩⟩,
    ⟨(ka_cons (b := false) (r := false) (ko_non I13 xn13) ka_nil), List.forall_mem_cons.mpr ⟨⟨I1, (ka_cons (b := false) (r := false) (ko_ref I13 x0_1 xp1_13) ka_nil)⟩, List.forall_mem_cons.mpr ⟨⟨I2, (ka_cons (b := false) (r := false) (ko_ref I13 x0_2 xp2_13) ka_nil)⟩, List.forall_mem_cons.mpr ⟨⟨I3, (ka_cons (b := false) (r := false) (ko_ref I13 x0_3 xp3_13) ka_nil)⟩, List.forall_mem_cons.mpr ⟨⟨I4, (ka_cons (b := false) (r := false) (ko_ref I13 x0_4 xp4_13) ka_nil)⟩, List.forall_mem_cons.mpr ⟨⟨I5, (ka_cons (b := false) (r := false) (ko_ref I13 x0_5 xp5_13) ka_nil)⟩, List.forall_mem_cons.mpr ⟨⟨I6, (ka_cons (b := false) (r := false) (ko_ref I13 x0_6 xp6_13) ka_nil)⟩, List.forall_mem_cons.mpr ⟨⟨I7, (ka_cons (b := false) (r := false) (ko_ref I13 x0_7 xp7_13) ka_nil)⟩, List.forall_mem_cons.mpr ⟨⟨I8, (ka_cons (b := false) (r := false) (ko_ref I13 x0_8 xp8_13) ka_nil)⟩, List.forall_mem_cons.mpr ⟨⟨I13, (ka_cons (b := true) (r := false) (ko_ref I13 x0_13 x0_13) ka_nil)⟩, List.forall_mem_cons.mpr ⟨⟨I14, (ka_cons (b := false) (r := false) (ko_ref I13 x0_14 xp14_13) ka_nil)⟩, List.forall_mem_cons.mpr ⟨⟨I15, (ka_cons (b := false) (r := false) (ko_ref I13 x0_15 xp15_13) ka_nil)⟩, List.forall_mem_cons.mpr ⟨⟨I16, (ka_cons (b := false) (r := false) (ko_ref I13 x0_16 xp16_13) ka_nil)⟩, List.forall_mem_cons.mpr ⟨⟨I17, (ka_cons (b := false) (r := false) (ko_ref I13 x0_17 xp17_13) ka_nil)⟩, List.forall_mem_cons.mpr ⟨⟨I9, (ka_cons (b := false) (r := false) (ko_ref I13 x0_9 xp9_13) ka_nil)⟩, List.forall_mem_cons.mpr ⟨⟨I10, (ka_cons (b := false) (r := false) (ko_ref I13 x0_10 xp10_13) ka_nil)⟩, List.forall_mem_cons.mpr ⟨⟨I11, (ka_cons (b := false) (r := false) (ko_ref I13 x0_11 xp11_13) ka_nil)⟩, List.forall_mem_cons.mpr ⟨⟨I12, (ka_cons (b := false) (r := false) (ko_ref I13 x0_12 xp12_13) ka_nil)⟩, (fun _ h => nomatch h)⟩⟩⟩⟩⟩⟩⟩⟩⟩⟩⟩⟩⟩⟩⟩⟩⟩⟩,
    ⟨(ka_cons (b := false) (r := false) (ko_non I17 xn17) ka_nil), List.forall_mem_cons.mpr ⟨⟨I1, (ka_cons (b := false) (r := false) (ko_ref I17 x0_1 xp1_17) ka_nil)⟩, List.forall_mem_cons.mpr ⟨⟨I2, (ka_cons (b := false) (r := false) (ko_ref I17 x0_2 xp2_17) ka_nil)⟩, List.forall_mem_cons.mpr ⟨⟨I3, (ka_cons (b := false) (r := false) (ko_ref I17 x0_3 xp3_17) ka_nil)⟩, List.forall_mem_cons.mpr ⟨⟨I4, (ka_cons (b := false) (r := false) (ko_ref I17 x0_4 xp4_17) ka_nil)⟩, List.forall_mem_cons.mpr ⟨⟨I5, (ka_cons (b := false) (r := false) (ko_ref I17 x0_5 xp5_17) ka_nil)⟩, List.forall_mem_cons.mpr ⟨⟨I6, (ka_cons (b := false) (r := false) (ko_ref I17 x0_6 xp6_17) ka_nil)⟩, List.forall_mem_cons.mpr ⟨⟨I7, (ka_cons (b := false) (r := false) (ko_ref I17 x0_7 xp7_17) ka_nil)⟩, List.forall_mem_cons.mpr ⟨⟨I8, (ka_cons (b := false) (r := false) (ko_ref I17 x0_8 xp8_17) ka_nil)⟩, List.forall_mem_cons.mpr ⟨⟨I13, (ka_cons (b := false) (r := false) (ko_ref I17 x0_13 xp13_17) ka_nil)⟩, List.forall_mem_cons.mpr ⟨⟨I14, (ka_cons (b := false) (r := false) (ko_ref I17 x0_14 xp14_17) ka_nil)⟩, List.forall_mem_cons.mpr ⟨⟨I15, (ka_cons (b := false) (r := false) (ko_ref I17 x0_15 xp15_17) ka_nil)⟩, List.forall_mem_cons.mpr ⟨⟨I16, (ka_cons (b := false) (r := false) (ko_ref I17 x0_16 xp16_17) ka_nil)⟩, List.forall_mem_cons.mpr ⟨⟨I17, (ka_cons (b := true) (r := false) (ko_ref I17 x0_17 x0_17) ka_nil)⟩, List.forall_mem_cons.mpr ⟨⟨I9, (ka_cons (b := false) (r := false) (ko_ref I17 x0_9 xp9_17) ka_nil)⟩, List.forall_mem_cons.mpr ⟨⟨I10, (ka_cons (b := false) (r := false) (ko_ref I17 x0_10 xp10_17) ka_nil)⟩, List.forall_mem_cons.mpr ⟨⟨I11, (ka_cons (b := false) (r := false) (ko_ref I17 x0_11 xp11_17) ka_nil)⟩, List.forall_mem_cons.mpr ⟨⟨I12, (ka_cons (b := false) (r := false) (ko_ref I17 x0_12 xp12_17) ka_nil)⟩, (fun _ h => nomatch h)⟩⟩⟩⟩⟩⟩⟩⟩⟩⟩⟩⟩⟩⟩⟩⟩⟩⟩,
    ⟨(ka_cons (b := false) (r := false) (kit_ty (by decide +kernel)) ka_nil), List.forall_mem_cons.mpr ⟨⟨I1, (ka_cons (b := true) (r := false) (ko_ty (by decide +kernel) xb1_LookupError) ka_nil)⟩, List.forall_mem_cons.mpr ⟨⟨I2, (ka_cons (b := false) (r := false) (ko_ty (by decide +kernel) xb2_LookupError) ka_nil)⟩, List.forall_mem_cons.mpr ⟨⟨I3, (ka_cons (b := false) (r := false) (ko_ty (by decide +kernel) xb3_LookupError) ka_nil)⟩, List.forall_mem_cons.mpr ⟨⟨I4, (ka_cons (b := false) (r := false) (ko_ty (by decide +kernel) xb4_LookupError) ka_nil)⟩, List.forall_mem_cons.mpr ⟨⟨I5, (ka_cons (b := false) (r := false) (ko_ty (by decide +kernel) xb5_LookupError) ka_nil)⟩, List.forall_mem_cons.mpr ⟨⟨I6, (ka_cons (b := false) (r := false) (ko_ty (by decide +kernel) xb6_LookupError) ka_nil)⟩, List.forall_mem_cons.mpr ⟨⟨I7, (ka_cons (b := false) (r := false) (ko_ty (by decide +kernel) xb7_LookupError) ka_nil)⟩, List.forall_mem_cons.mpr ⟨⟨I8, (ka_cons (b := false) (r := false) (ko_ty (by decide +kernel) xb8_LookupError) ka_nil)⟩, List.forall_mem_cons.mpr ⟨⟨I13, (ka_cons (b := false) (r := false) (ko_ty (by decide +kernel) xb13_LookupError) ka_nil)⟩, List.forall_mem_cons.mpr ⟨⟨I14, (ka_cons (b := false) (r := false) (ko_ty (by decide +kernel) xb14_LookupError) ka_nil)⟩, List.forall_mem_cons.mpr ⟨⟨I15, (ka_cons (b := false) (r := false) (ko_ty (by decide +kernel) xb15_LookupError) ka_nil)⟩, List.forall_mem_cons.mpr ⟨⟨I16, (ka_cons (b := false) (r := false) (ko_ty (by decide +kernel) xb16_LookupError) ka_nil)⟩, List.forall_mem_cons.mpr ⟨⟨I17, (ka_cons (b := true) (r := false) (ko_ty (by decide +kernel) xb17_LookupError) ka_nil)⟩, List.forall_mem_cons.mpr ⟨⟨I9, (ka_cons (b := false) (r := false) (ko_ty (by decide +kernel) xb9_LookupError) ka_nil)⟩, List.forall_mem_cons.mpr ⟨⟨I10, (ka_cons (b := false) (r := false) (ko_ty (by decide +kernel) xb10_LookupError) ka_nil)⟩, List.forall_mem_cons.mpr ⟨⟨I11, (ka_cons (b := false) (r := false) (ko_ty (by decide +kernel) xb11_LookupError) ka_nil)⟩, List.forall_mem_cons.mpr ⟨⟨I12, (ka_cons (b := false) (r := false) (ko_ty (by decide +kernel) xb12_LookupError) ka_nil)⟩, (fun _ h => nomatch h)⟩⟩⟩⟩⟩⟩⟩⟩⟩⟩⟩⟩⟩⟩⟩⟩⟩⟩,
    ⟨(ka_cons (b := false) (r := false) (kit_ty (by decide +kernel)) ka_nil), List.forall_mem_cons.mpr ⟨⟨I1, (ka_cons (b := true) (r := false) (ko_ty (by decide +kernel) xb1_KeyError) ka_nil)⟩, List.forall_mem_cons.mpr ⟨⟨I2, (ka_cons (b := false) (r := false) (ko_ty (by decide +kernel) xb2_KeyError) ka_nil)⟩, List.forall_mem_cons.mpr ⟨⟨I3, (ka_cons (b := false) (r := false) (ko_ty (by decide +kernel) xb3_KeyError) ka_nil)⟩, List.forall_mem_cons.mpr ⟨⟨I4, (ka_cons (b := false) (r := false) (ko_ty (by decide +kernel) xb4_KeyError) ka_nil)⟩, List.forall_mem_cons.mpr ⟨⟨I5, (ka_cons (b := false) (r := false) (ko_ty (by decide +kernel) xb5_KeyError) ka_nil)⟩, List.forall_mem_cons.mpr ⟨⟨I6, (ka_cons (b := false) (r := false) (ko_ty (by decide +kernel) xb6_KeyError) ka_nil)⟩, List.forall_mem_cons.mpr ⟨⟨I7, (ka_cons (b := false) (r := false) (ko_ty (by decide +kernel) xb7_KeyError) ka_nil)⟩, List.forall_mem_cons.mpr ⟨⟨I8, (ka_cons (b := false) (r := false) (ko_ty (by decide +kernel) xb8_KeyError) ka_nil)⟩, List.forall_mem_cons.mpr ⟨⟨I13, (ka_cons (b := false) (r := false) (ko_ty (by decide +kernel) xb13_KeyError) ka_nil)⟩, List.forall_mem_cons.mpr ⟨⟨I14, (ka_cons (b := false) (r := false) (ko_ty (by decide +kernel) xb14_KeyError) ka_nil)⟩, List.forall_mem_cons.mpr ⟨⟨I15, (ka_cons (b := false) (r := false) (ko_ty (by decide +kernel) xb15_KeyError) ka_nil)⟩, List.forall_mem_cons.mpr ⟨⟨I16, (ka_cons (b := false) (r := false) (ko_ty (by decide +kernel) xb16_KeyError) ka_nil)⟩, List.forall_mem_cons.mpr ⟨⟨I17, (ka_cons (b := false) (r := false) (ko_ty (by decide +kernel) xb17_KeyError) ka_nil)⟩, List.forall_mem_cons.mpr ⟨⟨I9, (ka_cons (b := false) (r := false) (ko_ty (by decide +kernel) xb9_KeyError) ka_nil)⟩, List.forall_mem_cons.mpr ⟨⟨I10, (ka_cons (b := false) (r := false) (ko_ty (by decide +kernel) xb10_KeyError) ka_nil)⟩, List.forall_mem_cons.mpr ⟨⟨I11, (ka_cons (b := false) (r := false) (ko_ty (by decide +kernel) xb11_KeyError) ka_nil)⟩, List.forall_mem_cons.mpr ⟨⟨I12, (ka_cons (b := false) (r := false) (ko_ty (by decide +kernel) xb12_KeyError) ka_nil)⟩, (fun _ h => nomatch h)⟩⟩⟩⟩⟩⟩⟩⟩⟩⟩⟩⟩⟩⟩⟩⟩⟩⟩,
    ⟨(ka_cons (b := false) (r := false) (kit_ty (by decide +kernel)) ka_nil), List.forall_mem_cons.mpr ⟨⟨I1, (ka_cons (b := false) (r := false) (ko_ty (by decide +kernel) xb1_ValueError) ka_nil)⟩, List.forall_mem_cons.mpr ⟨⟨I2, (ka_cons (b := true) (r := false) (ko_ty (by decide +kernel) xb2_ValueError) ka_nil)⟩, List.forall_mem_cons.mpr ⟨⟨I3, (ka_cons (b := true) (r := false) (ko_ty (by decide +kernel) xb3_ValueError) ka_nil)⟩, List.forall_mem_cons.mpr ⟨⟨I4, (ka_cons (b := true) (r := false) (ko_ty (by decide +kernel) xb4_ValueError) ka_nil)⟩, List.forall_mem_cons.mpr ⟨⟨I5, (ka_cons (b := true) (r := false) (ko_ty (by decide +kernel) xb5_ValueError) ka_nil)⟩, List.forall_mem_cons.mpr ⟨⟨I6, (ka_cons (b := true) (r := false) (ko_ty (by decide +kernel) xb6_ValueError) ka_nil)⟩, List.forall_mem_cons.mpr ⟨⟨I7, (ka_cons (b := true) (r := false) (ko_ty (by decide +kernel) xb7_ValueError) ka_nil)⟩, List.forall_mem_cons.mpr ⟨⟨I8, (ka_cons (b := true) (r := false) (ko_ty (by decide +kernel) xb8_ValueError) ka_nil)⟩, List.forall_mem_cons.mpr ⟨⟨I13, (ka_cons (b := true) (r := false) (ko_ty (by decide +kernel) xb13_ValueError) ka_nil)⟩, List.forall_mem_cons.mpr ⟨⟨I14, (ka_cons (b := true) (r := false) (ko_ty (by decide +kernel) xb14_ValueError) ka_nil)⟩, List.forall_mem_cons.mpr ⟨⟨I15, (ka_cons (b := true) (r := false) (ko_ty (by decide +kernel) xb15_ValueError) ka_nil)⟩, List.forall_mem_cons.mpr ⟨⟨I16, (ka_cons (b := true) (r := false) (ko_ty (by decide +kernel) xb16_ValueError) ka_nil)⟩, List.forall_mem_cons.mpr ⟨⟨I17, (ka_cons (b := false) (r := false) (ko_ty (by decide +kernel) xb17_ValueError) ka_nil)⟩, List.forall_mem_cons.mpr ⟨⟨I9, (ka_cons (b := true) (r := false) (ko_ty (by decide +kernel) xb9_ValueError) ka_nil)⟩, List.forall_mem_cons.mpr ⟨⟨I10, (ka_cons (b := true) (r := false) (ko_ty (by decide +kernel) xb10_ValueError) ka_nil)⟩, List.forall_mem_cons.mpr ⟨⟨I11, (ka_cons (b := true) (r := false) (ko_ty (by decide +kernel) xb11_ValueError) ka_nil)⟩, List.forall_mem_cons.mpr ⟨⟨I12, (ka_cons (b := true) (r := false) (ko_ty (by decide +kernel) xb12_ValueError) ka_nil)⟩, (fun _ h => nomatch h)⟩⟩⟩⟩⟩⟩⟩⟩⟩⟩⟩⟩⟩⟩⟩⟩⟩⟩,
    ⟨(ka_cons (b := false) (r := false) (ko_non I0 xn0) ka_nil), List.forall_mem_cons.mpr ⟨⟨I1, (ka_cons (b := false) (r := false) (ko_ref I0 x0_1 xp1_0) ka_nil)⟩, List.forall_mem_cons.mpr ⟨⟨I2, (ka_cons (b := true) (r := false) (ko_ref I0 x0_2 xp2_0) ka_nil)⟩, List.forall_mem_cons.mpr ⟨⟨I3, (ka_cons (b := true) (r := false) (ko_ref I0 x0_3 xp3_0) ka_nil)⟩, List.forall_mem_cons.mpr ⟨⟨I4, (ka_cons (b := true) (r := false) (ko_ref I0 x0_4 xp4_0) ka_nil)⟩, List.forall_mem_cons.mpr ⟨⟨I5, (ka_cons (b := true) (r := false) (ko_ref I0 x0_5 xp5_0) ka_nil)⟩, List.forall_mem_cons.mpr ⟨⟨I6, (ka_cons (b := true) (r := false) (ko_ref I0 x0_6 xp6_0) ka_nil)⟩, List.forall_mem_cons.mpr ⟨⟨I7, (ka_cons (b := true) (r := false) (ko_ref I0 x0_7 xp7_0) ka_nil)⟩, List.forall_mem_cons.mpr ⟨⟨I8, (ka_cons (b := true) (r := false) (ko_ref I0 x0_8 xp8_0) ka_nil)⟩, List.forall_mem_cons.mpr ⟨⟨I13, (ka_cons (b := true) (r := false) (ko_ref I0 x0_13 xp13_0) ka_nil)⟩, List.forall_mem_cons.mpr ⟨⟨I14, (ka_cons (b := true) (r := false) (ko_ref I0 x0_14 xp14_0) ka_nil)⟩, List.forall_mem_cons.mpr ⟨⟨I15, (ka_cons (b := true) (r := false) (ko_ref I0 x0_15 xp15_0) ka_nil)⟩, List.forall_mem_cons.mpr ⟨⟨I16, (ka_cons (b := true) (r := false) (ko_ref I0 x0_16 xp16_0) ka_nil)⟩, List.forall_mem_cons.mpr ⟨⟨I17, (ka_cons (b := false) (r := false) (ko_ref I0 x0_17 xp17_0) ka_nil)⟩, List.forall_mem_cons.mpr ⟨⟨I9, (ka_cons (b := true) (r := false) (ko_ref I0 x0_9 xp9_0) ka_nil)⟩, List.forall_mem_cons.mpr ⟨⟨I10, (ka_cons (b := true) (r := false) (ko_ref I0 x0_10 xp10_0) ka_nil)⟩, List.forall_mem_cons.mpr ⟨⟨I11, (ka_cons (b := true) (r := false) (ko_ref I0 x0_11 xp11_0) ka_nil)⟩, List.forall_mem_cons.mpr ⟨⟨I12, (ka_cons (b := true) (r := false) (ko_ref I0 x0_12 xp12_0) ka_nil)⟩, (fun _ h => nomatch h)⟩⟩⟩⟩⟩⟩⟩⟩⟩⟩⟩⟩⟩⟩⟩⟩⟩⟩,
    PySem.W.mg_of X G a6_0,
    PySem.W.mg_of X G a5_0,
    PySem.W.mg_of X G a2_0,
    PySem.W.mg_of X G a3_0,
    PySem.W.mg_of X G a0_0,
    PySem.W.mg_of X G a4_0,
    PySem.W.mg_of X G a1_0,
    PySem.W.mg_none_of X G z_KeyError,
    PySem.W.mg_none_of X G z_LookupError,
    PySem.W.mg_none_of X G z_ValueError,
    PySem.W.mg_none_of X G z_int,
    PySem.W.mg_none_of X G z_isinstance,
    PySem.W.mg_none_of X G z_len,
    PySem.W.mg_none_of X G z_range⟩
  exact ⟨c, PySem.W.fnOf "law" "law" (defArgs s_law) (defBody s_law) (defScope s_law) .none kV7 dc7 pm7 an7 cd7 ct7, fun s v => .of_eq rfl, fun base _ _ => ok_law T⟩
end Lw
end
section
namespace Mb
open PySem PySem.Spec L2 Vi
def rowOf (m i : Nat) : List Bool := (List.range m).map fun k => decide (i / 2 ^ (m - 1 - k) % 2 = 1)
def rowsOf (m : Nat) : List (List Bool) := (List.range (2 ^ m)).map (rowOf m)
def rowD (r : List Bool) : D := .tup (r.map D.bl)
@[simp] theorem rowOf_len {m i : Nat} : (rowOf m i).length = m := by simp [rowOf]
theorem rowsOf_len {m : Nat} {r : List Bool} (h : r ∈ rowsOf m) : r.length = m := by
  obtain ⟨i, _, rfl⟩ := List.mem_map.mp h
  exact rowOf_len
end Mb
end
section
namespace Mb
open PySem PySem.Spec L2 Vi
@[simp] theorem so_0 : PySem.PyData.strOk (PySem.Str.ofString "yes") = true := by decide +kernel
@[simp] theorem so_1 : PySem.PyData.strOk (PySem.Str.ofString "no") = true := by decide +kernel
@[simp] theorem so_2 : PySem.PyData.strOk (PySem.Str.ofString "wish") = true := by decide +kernel
@[simp] theorem so_3 : PySem.PyData.strOk (PySem.Str.ofString "not") = true := by decide +kernel
@[simp] theorem so_4 : PySem.PyData.strOk (PySem.Str.ofString "and") = true := by decide +kernel
@[simp] theorem so_5 : PySem.PyData.strOk (PySem.Str.ofString "or") = true := by decide +kernel
@[simp] theorem so_6 : PySem.PyData.strOk (PySem.Str.ofString "cases") = true := by decide +kernel
@[simp] theorem ne_0_1 : (PySem.Str.ofString "yes" = PySem.Str.ofString "no") = False := eq_false (by decide +kernel)
@[simp] theorem ne_0_2 : (PySem.Str.ofString "yes" = PySem.Str.ofString "wish") = False := eq_false (by decide +kernel)
@[simp] theorem ne_0_3 : (PySem.Str.ofString "yes" = PySem.Str.ofString "not") = False := eq_false (by decide +kernel)
@[simp] theorem ne_0_4 : (PySem.Str.ofString "yes" = PySem.Str.ofString "and") = False := eq_false (by decide +kernel)
@[simp] theorem ne_0_5 : (PySem.Str.ofString "yes" = PySem.Str.ofString "or") = False := eq_false (by decide +kernel)
@[simp] theorem ne_0_6 : (PySem.Str.ofString "yes" = PySem.Str.ofString "cases") = False := eq_false (by decide +kernel)
@[simp] theorem ne_1_0 : (PySem.Str.ofString "no" = PySem.Str.ofString "yes") = False := eq_false (by decide +kernel)
@[simp] theorem ne_1_2 : (PySem.Str.ofString "no" = PySem.Str.ofString "wish") = False := eq_false (by decide +kernel)
@[simp] theorem ne_1_3 : (PySem.Str.ofString "no" = PySem.Str.ofString "not") = False := eq_false (by decide +kernel)
@[simp] theorem ne_1_4 : (PySem.Str.ofString "no" = PySem.Str.ofString "and") = False := eq_false (by decide +kernel)
@[simp] theorem ne_1_5 : (PySem.Str.ofString "no" = PySem.Str.ofString "or") = False := eq_false (by decide +kernel)
@[simp] theorem ne_1_6 : (PySem.Str.ofString "no" = PySem.Str.ofString "cases") = False := eq_false (by decide +kernel)
@[simp] theorem ne_2_0 : (PySem.Str.ofString "wish" = PySem.Str.ofString "yes") = False := eq_false (by decide +kernel)
@[simp] theorem ne_2_1 : (PySem.Str.ofString "wish" = PySem.Str.ofString "no") = False := eq_false (by decide +kernel)
@[simp] theorem ne_2_3 : (PySem.Str.ofString "wish" = PySem.Str.ofString "not") = False := eq_false (by decide +kernel)
@[simp] theorem ne_2_4 : (PySem.Str.ofString "wish" = PySem.Str.ofString "and") = False := eq_false (by decide +kernel)
@[simp] theorem ne_2_5 : (PySem.Str.ofString "wish" = PySem.Str.ofString "or") = False := eq_false (by decide +kernel)
@[simp] theorem ne_2_6 : (PySem.Str.ofString "wish" = PySem.Str.ofString "cases") = False := eq_false (by decide +kernel)
@[simp] theorem ne_3_0 : (PySem.Str.ofString "not" = PySem.Str.ofString "yes") = False := eq_false (by decide +kernel)
@[simp] theorem ne_3_1 : (PySem.Str.ofString "not" = PySem.Str.ofString "no") = False := eq_false (by decide +kernel)
@[simp] theorem ne_3_2 : (PySem.Str.ofString "not" = PySem.Str.ofString "wish") = False := eq_false (by decide +kernel)
@[simp] theorem ne_3_4 : (PySem.Str.ofString "not" = PySem.Str.ofString "and") = False := eq_false (by decide +kernel)
@[simp] theorem ne_3_5 : (PySem.Str.ofString "not" = PySem.Str.ofString "or") = False := eq_false (by decide +kernel)
@[simp] theorem ne_3_6 : (PySem.Str.ofString "not" = PySem.Str.ofString "cases") = False := eq_false (by decide +kernel)
@[simp] theorem ne_4_0 : (PySem.Str.ofString "and" = PySem.Str.ofString "yes") = False := eq_false (by decide +kernel)
@[simp] theorem ne_4_1 : (PySem.Str.ofString "and" = PySem.Str.ofString "no") = False := eq_false (by decide +kernel)
@[simp] theorem ne_4_2 : (PySem.Str.ofString "and" = PySem.Str.ofString "wish") = False := eq_false (by decide +kernel)
@[simp] theorem ne_4_3 : (PySem.Str.ofString "and" = PySem.Str.ofString "not") = False := eq_false (by decide +kernel)
@[simp] theorem ne_4_5 : (PySem.Str.ofString "and" = PySem.Str.ofString "or") = False := eq_false (by decide +kernel)
@[simp] theorem ne_4_6 : (PySem.Str.ofString "and" = PySem.Str.ofString "cases") = False := eq_false (by decide +kernel)
@[simp] theorem ne_5_0 : (PySem.Str.ofString "or" = PySem.Str.ofString "yes") = False := eq_false (by decide +kernel)
@[simp] theorem ne_5_1 : (PySem.Str.ofString "or" = PySem.Str.ofString "no") = False := eq_false (by decide +kernel)
@[simp] theorem ne_5_2 : (PySem.Str.ofString "or" = PySem.Str.ofString "wish") = False := eq_false (by decide +kernel)
@[simp] theorem ne_5_3 : (PySem.Str.ofString "or" = PySem.Str.ofString "not") = False := eq_false (by decide +kernel)
@[simp] theorem ne_5_4 : (PySem.Str.ofString "or" = PySem.Str.ofString "and") = False := eq_false (by decide +kernel)
@[simp] theorem ne_5_6 : (PySem.Str.ofString "or" = PySem.Str.ofString "cases") = False := eq_false (by decide +kernel)
@[simp] theorem ne_6_0 : (PySem.Str.ofString "cases" = PySem.Str.ofString "yes") = False := eq_false (by decide +kernel)
@[simp] theorem ne_6_1 : (PySem.Str.ofString "cases" = PySem.Str.ofString "no") = False := eq_false (by decide +kernel)
@[simp] theorem ne_6_2 : (PySem.Str.ofString "cases" = PySem.Str.ofString "wish") = False := eq_false (by decide +kernel)
@[simp] theorem ne_6_3 : (PySem.Str.ofString "cases" = PySem.Str.ofString "not") = False := eq_false (by decide +kernel)
@[simp] theorem ne_6_4 : (PySem.Str.ofString "cases" = PySem.Str.ofString "and") = False := eq_false (by decide +kernel)
@[simp] theorem ne_6_5 : (PySem.Str.ofString "cases" = PySem.Str.ofString "or") = False := eq_false (by decide +kernel)
def Dec (m : Nat) : Nat → Nat → D → Prop
  | 0, _, _ => False
  | n + 1, s, d =>
    (1 ≤ s ∧ (d = .tup [.str "yes"] ∨ d = .tup [.str "no"] ∨ ∃ k : Nat, k < m ∧ d = .tup [.str "wish", .int k]))
    ∨ (∃ e t, d = .tup [.str "not", e] ∧ Dec m n t e ∧ t + 1 ≤ s)
    ∨ (∃ (w : Bool) (es : List D) (t : Nat), d = .tup [.str (if w then "and" else "or"), .tup es] ∧ es ≠ [] ∧ es.length ≤ 6 ∧ (∀ e ∈ es, Dec m n t e) ∧ es.length * t + 1 ≤ s)
    ∨ (∃ (ps : List (D × D)) (e : D) (t : Nat), d = .tup [.str "cases", .tup (ps.map fun p => .tup [p.1, p.2]), e] ∧ ps ≠ [] ∧ ps.length ≤ 4 ∧ (∀ p ∈ ps, Dec m n t p.1 ∧ Dec m n t p.2) ∧ Dec m n t e ∧ (2 * ps.length + 1) * t + 1 ≤ s)
theorem Dec.pos {m : Nat} : ∀ {n s : Nat} {d : D}, Dec m n s d → 1 ≤ s
  | n + 1, s, d, h => by
    rcases h with ⟨h, _⟩ | ⟨_, _, _, _, h⟩ | ⟨_, _, _, _, _, _, _, h⟩ | ⟨_, _, _, _, _, _, _, _, h⟩ <;> omega
theorem Dec.mono {m : Nat} : ∀ {n s : Nat} {d : D}, Dec m n s d → ∀ {n' s'}, n ≤ n' → s ≤ s' → Dec m n' s' d
  | n + 1, s, d, h, n', s', hn, hs => by
    obtain ⟨k, rfl⟩ : ∃ k, n' = k + 1 := ⟨n' - 1, by omega⟩
    rcases h with ⟨h, h2⟩ | ⟨e, t, h1, h2, h3⟩ | ⟨w, es, t, h1, h2, h3, h4, h5⟩ | ⟨ps, e, t, h1, h2, h3, h4, h5, h6⟩
    · exact .inl ⟨by omega, h2⟩
    · exact .inr (.inl ⟨e, t, h1, h2.mono (by omega) (Nat.le_refl _), by omega⟩)
    · exact .inr (.inr (.inl ⟨w, es, t, h1, h2, h3, fun e he => (h4 e he).mono (by omega) (Nat.le_refl _), by omega⟩))
    · exact .inr (.inr (.inr ⟨ps, e, t, h1, h2, h3, fun p hp => ⟨(h4 p hp).1.mono (by omega) (Nat.le_refl _), (h4 p hp).2.mono (by omega) (Nat.le_refl _)⟩, h5.mono (by omega) (Nat.le_refl _), by omega⟩))
theorem Dec.noR {m : Nat} : ∀ {n s : Nat} {d : D}, Dec m n s d → noR d = true
  | n + 1, s, d, h => by
    rcases h with ⟨h, h2 | h2 | ⟨k, hk, h2⟩⟩ | ⟨e, t, h1, h2, h3⟩ | ⟨w, es, t, h1, h2, h3, h4, h5⟩ | ⟨ps, e, t, h1, h2, h3, h4, h5, h6⟩
    · subst h2; simp
    · subst h2; simp
    · subst h2; simp
    · subst h1; simp [h2.noR]
    · subst h1
      simp only [noR_tup, List.all_cons, noR_str, List.all_nil, Bool.and_true, Bool.true_and, List.all_eq_true]
      exact fun e he => (h4 e he).noR
    · subst h1
      simp only [noR_tup, List.all_cons, noR_str, List.all_nil, Bool.and_true, Bool.true_and, List.all_eq_true, Bool.and_eq_true]
      refine ⟨fun x hx => ?_, h5.noR⟩
      obtain ⟨p, hp, rfl⟩ := List.mem_map.mp hx
      simp [(h4 p hp).1.noR, (h4 p hp).2.noR]
def Nice (k L : Nat) (x : PyData) : Prop := x.canLay0 = true ∧ x.depth ≤ k ∧ x.showable = true ∧ x.hasDict = false ∧ x.shown.length ≤ L
def Pyd (k L : Nat) (d : D) : Prop := ∃ x, (∀ A j, k ≤ j → py A j d = some x) ∧ Nice k L x
def Pyl (k L : Nat) (ds : List D) : Prop := ∃ xs, (∀ A j, k ≤ j → pys (py A j) ds = some xs) ∧ PyData.canLayAll0 xs = true ∧ PyData.depthAll xs ≤ k ∧ PyData.showableAll xs = true ∧ PyData.hasDictAll xs = false ∧ piled (PyData.shownAll xs) ≤ L
section
variable {k L L1 L2 : Nat} {d : D} {ds : List D}
theorem Pyl.nil : Pyl k 0 [] := ⟨[], fun _ _ _ => rfl, rfl, Nat.zero_le _, rfl, rfl, Nat.le_refl _⟩
theorem Pyl.cons (h : Pyd k L1 d) (r : Pyl k L2 ds) : Pyl k (L1 + 2 + L2) (d :: ds) := by
  obtain ⟨x, e, a1, a2, a3, a4, a5⟩ := h
  obtain ⟨xs, f, b1, b2, b3, b4, b5⟩ := r
  refine ⟨x :: xs, fun A j hj => by rw [pys, e A j hj, f A j hj]; rfl, by simp [PyData.canLayAll0, a1, b1], by simp only [PyData.depthAll]; omega, by simp [PyData.showableAll, a3, b3], by simp [PyData.hasDictAll, a4, b4], ?_⟩
  rw [PyData.shownAll, piled_cons]
  omega
theorem Pyl.unif (h : ∀ d ∈ ds, Pyd k L d) : Pyl k (ds.length * (L + 2)) ds := by
  induction ds with
  | nil => simpa using Pyl.nil
  | cons d ds ih =>
    have := Pyl.cons (h d (List.mem_cons_self ..)) (ih fun e he => h e (List.mem_cons_of_mem _ he))
    rw [List.length_cons, Nat.succ_mul, Nat.add_comm]
    exact this
theorem tupleText_len (ts : List Str) : (tupleText ts).length ≤ piled ts + 3 := by
  have h1 : (("(" : String) : Str).length = 1 := rfl
  have h2 : ∀ b : Bool, (((if b then ",)" else ")") : String) : Str).length ≤ 2 := by decide +kernel
  have h3 := h2 (ts.length == 1)
  have h4 : (Str.join ", " ts).length ≤ piled ts := by
    cases ts with
    | nil => exact Nat.le_refl 0
    | cons t r => have := join_length_add (t :: r) (by simp); omega
  unfold tupleText
  rw [strLen_append, strLen_append, h1]
  omega
theorem Pyd.tup (r : Pyl k L ds) : Pyd (k + 1) (L + 3) (.tup ds) := by
  obtain ⟨xs, f, b1, b2, b3, b4, b5⟩ := r
  refine ⟨.tuple xs, fun A j hj => ?_, by simpa [PyData.canLay0] using b1, by simp only [PyData.depth]; omega, by simpa [PyData.showable] using b3, by simpa [PyData.hasDict] using b4, ?_⟩
  · obtain ⟨i, rfl⟩ : ∃ i, j = i + 1 := ⟨j - 1, by omega⟩
    show (pys (py A i) ds).map _ = _
    rw [f A i (by omega)]; rfl
  · rw [PyData.shown]
    have := tupleText_len (PyData.shownAll xs)
    omega
theorem Pyd.str {s : Str} (h : PyData.strOk s = true) (hl : (reprText s).length ≤ L) : Pyd k L (.str s) := ⟨.str s, fun _ j _ => by cases j <;> rfl, by simpa [PyData.canLay0] using h, Nat.zero_le _, rfl, rfl, by rw [PyData.shown]; exact hl⟩
theorem Pyd.mono {k' L' : Nat} (h : Pyd k L d) (hk : k ≤ k') (hL : L ≤ L') : Pyd k' L' d := by
  obtain ⟨x, e, a1, a2, a3, a4, a5⟩ := h
  exact ⟨x, fun A j hj => e A j (by omega), a1, by omega, a3, a4, by omega⟩
end
theorem digit_len : ∀ k : Fin 10, (PyData.shown (.int ((k : Nat) : Int))).length ≤ 3 ∧ PyData.showable (.int ((k : Nat) : Int)) = true := by decide +kernel
theorem Pyd.dig {k i : Nat} (h : i < 10) : Pyd k 3 (.int i) := ⟨.int i, fun _ j _ => by cases j <;> rfl, rfl, Nat.zero_le _, (digit_len ⟨i, h⟩).2, rfl, (digit_len ⟨i, h⟩).1⟩
theorem Pyd.w0 {k : Nat} : Pyd k 5 (.str (Str.ofString "yes")) := Pyd.str (by decide +kernel) (by decide +kernel)
theorem Pyd.w1 {k : Nat} : Pyd k 4 (.str (Str.ofString "no")) := Pyd.str (by decide +kernel) (by decide +kernel)
theorem Pyd.w2 {k : Nat} : Pyd k 6 (.str (Str.ofString "wish")) := Pyd.str (by decide +kernel) (by decide +kernel)
theorem Pyd.w3 {k : Nat} : Pyd k 5 (.str (Str.ofString "not")) := Pyd.str (by decide +kernel) (by decide +kernel)
theorem Pyd.w4 {k : Nat} : Pyd k 5 (.str (Str.ofString "and")) := Pyd.str (by decide +kernel) (by decide +kernel)
theorem Pyd.w5 {k : Nat} : Pyd k 4 (.str (Str.ofString "or")) := Pyd.str (by decide +kernel) (by decide +kernel)
theorem Pyd.w6 {k : Nat} : Pyd k 7 (.str (Str.ofString "cases")) := Pyd.str (by decide +kernel) (by decide +kernel)
theorem Dec.py {m : Nat} (hm : m ≤ 10) : ∀ {n s : Nat} {d : D}, Dec m n s d → Pyd (3 * n) (64 * s) d
  | n + 1, s, d, h => by
    have e3 : 3 * (n + 1) = 3 * n + 1 + 1 + 1 := by omega
    rcases h with ⟨h, h2 | h2 | ⟨k, hk, h2⟩⟩ | ⟨e, t, h1, h2, h3⟩ | ⟨w, es, t, h1, h2, h3, h4, h5⟩ | ⟨ps, e, t, h1, h2, h3, h4, h5, h6⟩
    · subst h2
      exact (Pyd.tup (.cons (Pyd.w0 (k := 0)) .nil)).mono (by omega) (by omega)
    · subst h2
      exact (Pyd.tup (.cons (Pyd.w1 (k := 0)) .nil)).mono (by omega) (by omega)
    · subst h2
      exact (Pyd.tup (.cons (Pyd.w2 (k := 0)) (.cons (.dig (by omega)) .nil))).mono (by omega) (by omega)
    · subst h1
      exact (Pyd.tup (.cons Pyd.w3 (.cons (h2.py hm) .nil))).mono (by omega) (by omega)
    · subst h1
      have hw : Pyd (3 * n + 1) 5 (.str (if w then "and" else "or")) := by
        cases w
        · exact Pyd.w5.mono (Nat.le_refl _) (by decide)
        · exact Pyd.w4
      refine (Pyd.tup (.cons hw (.cons (Pyd.tup (Pyl.unif fun e he => (h4 e he).py hm)) .nil))).mono (by omega) ?_
      have : es.length * (64 * t + 2) = 64 * (es.length * t) + 2 * es.length := by rw [Nat.mul_add, Nat.mul_left_comm, Nat.mul_comm es.length 2]
      omega
    · subst h1
      have hps : Pyl (3 * n + 1) ((ps.map fun p => D.tup [p.1, p.2]).length * (128 * t + 7 + 2)) (ps.map fun p => D.tup [p.1, p.2]) := Pyl.unif fun e he => by
        obtain ⟨p, hp, rfl⟩ := List.mem_map.mp he
        exact (Pyd.tup (.cons ((h4 p hp).1.py hm) (.cons ((h4 p hp).2.py hm) .nil))).mono (Nat.le_refl _) (by omega)
      rw [List.length_map] at hps
      refine (Pyd.tup (.cons Pyd.w6 (.cons (Pyd.tup hps) (.cons ((h5.py hm).mono (by omega) (Nat.le_refl _)) .nil)))).mono (by omega) ?_
      have : ps.length * (128 * t + 7 + 2) = 128 * (ps.length * t) + 9 * ps.length := by rw [Nat.add_assoc, Nat.mul_add, Nat.mul_left_comm, Nat.mul_comm ps.length (7 + 2)]
      have e5 : (2 * ps.length + 1) * t = 2 * (ps.length * t) + t := by rw [Nat.add_mul, Nat.mul_assoc, Nat.one_mul]
      omega
end Mb
end
section
namespace Mb
open PySem PySem.Spec L2 Vi
def Ans (n : Nat) (r : List Bool) (d : D) (b : Bool) : Prop :=
  (∀ f A, 2 * n ≤ f → m_answer f [d, rowD r] A = .ok (.bl b) A) ∧ (∀ f A, n ≤ f → m_law_answer f [d, rowD r] A = .ok (.bl b) A)
theorem answer_s (f : Nat) : m_answer (f + 1) = runB 4 (b_answer (m_answer_cases f) (m_answer f)) := rfl
theorem answer_cases_s (f : Nat) : m_answer_cases (f + 1) = runB 4 (b_answer_cases (m_answer_cases f) (m_answer f)) := rfl
theorem law_answer_s (f : Nat) : m_law_answer (f + 1) = runB 5 (b_law_answer (m_law_answer f)) := rfl
theorem row_at {r : List Bool} {k : Nat} (h : k < r.length) : atI (r.map D.bl) (k : Int) = some (.bl r[k]) := by
  apply atI_at
  rw [List.getElem?_map, List.getElem?_eq_getElem h]; rfl
theorem Pyd.eqs {k L : Nat} {d : D} (h : Pyd k L d) : ∃ x, (∀ A j, k ≤ j → py A j d = some x) ∧ x.canLay0 = true ∧ x.depth ≤ k := by
  obtain ⟨x, h1, h2, h3, _⟩ := h
  exact ⟨x, h1, h2, h3⟩
theorem Pyl.ofmem {k L : Nat} {ds : List D} (h : ∀ d ∈ ds, Pyd k L d) : ∃ xs, (∀ A j, k ≤ j → pys (py A j) ds = some xs) ∧ PyData.canLayAll0 xs = true ∧ PyData.depthAll xs ≤ k ∧ xs.isEmpty = ds.isEmpty := by
  obtain ⟨xs, h1, h2, h3, _⟩ := Pyl.unif h
  refine ⟨xs, h1, h2, h3, ?_⟩
  have := h1 [] k (Nat.le_refl _)
  cases ds with
  | nil => cases this; rfl
  | cons d ds =>
    rw [pys] at this
    obtain ⟨y, _, hy⟩ := Option.bind_eq_some_iff.mp this
    obtain ⟨ys, _, rfl⟩ := Option.map_eq_some_iff.mp hy
    rfl
theorem eq_lnil {k L : Nat} {ds : List D} {A : List O} (hk : k < 64) (h : ∀ d ∈ ds, Pyd k L d) : dEq (.lst ds) (.lst []) A = .ok (.bl ds.isEmpty) A ∧ dNe (.lst ds) (.lst []) A = .ok (.bl (!ds.isEmpty)) A := by
  obtain ⟨xs, h1, h2, h3, h4⟩ := Pyl.ofmem h
  have e : py A 64 (.lst ds) = some (.list xs) := by
    show (pys (py A 63) ds).map _ = _
    rw [h1 A 63 (by omega)]; rfl
  have e2 : py A 64 (.lst []) = some (.list []) := rfl
  have hs : SeqAt.shaped (.list xs) = true := by
    simp [SeqAt.shaped, PyData.canLay0, PyData.depth, h2]
    omega
  show dEqD _ _ A = _ ∧ dNeD _ _ A = _
  unfold dEqD dNeD
  rw [e, e2]
  simp only [hs, ← h4]
  cases xs <;> exact ⟨rfl, rfl⟩
set_option maxHeartbeats 8000000 in
theorem ans_ok {m : Nat} (hm : m ≤ 10) {r : List Bool} (hr : r.length = m) : ∀ {n s : Nat} {d : D}, n ≤ 20 → Dec m n s d → ∃ b, Ans n r d b
  | n + 1, s, d, hn, h => by
    have fs : ∀ {f : Nat}, 2 * (n + 1) ≤ f → ∃ g, f = g + 2 ∧ 2 * n ≤ g := fun {f} h => ⟨f - 2, by omega, by omega⟩
    have gs : ∀ {f : Nat}, n + 1 ≤ f → ∃ g, f = g + 1 ∧ n ≤ g := fun {f} h => ⟨f - 1, by omega, by omega⟩
    rcases h with ⟨h, h2 | h2 | ⟨k, hk, h2⟩⟩ | ⟨e, t, h1, h2, h3⟩ | ⟨w, es, t, h1, h2, h3, h4, h5⟩ | ⟨ps, e, t, h1, h2, h3, h4, h5, h6⟩
    · subst h2
      refine ⟨true, fun f A hf => ?_, fun f A hf => ?_⟩
      · obtain ⟨f, rfl, hf⟩ := fs hf
        rw [answer_s]
        simp [b_answer, rowD]
      · obtain ⟨f, rfl, hf⟩ := gs hf
        rw [law_answer_s]
        simp [b_law_answer, rowD]
    · subst h2
      refine ⟨false, fun f A hf => ?_, fun f A hf => ?_⟩
      · obtain ⟨f, rfl, hf⟩ := fs hf
        rw [answer_s]
        simp [b_answer, rowD]
      · obtain ⟨f, rfl, hf⟩ := gs hf
        rw [law_answer_s]
        simp [b_law_answer, rowD]
    · subst h2
      have := row_at (hr.symm ▸ hk)
      refine ⟨r[k], fun f A hf => ?_, fun f A hf => ?_⟩
      · obtain ⟨f, rfl, hf⟩ := fs hf
        rw [answer_s]
        simp [b_answer, rowD, this]
      · obtain ⟨f, rfl, hf⟩ := gs hf
        rw [law_answer_s]
        simp [b_law_answer, rowD, this]
    · subst h1
      obtain ⟨b, ih1, ih2⟩ := ans_ok hm hr (by omega) h2
      unfold rowD at ih1 ih2
      refine ⟨!b, fun f A hf => ?_, fun f A hf => ?_⟩
      · obtain ⟨f, rfl, hf⟩ := fs hf
        rw [answer_s]
        simp [b_answer, rowD, ih1 (f + 1) A (by omega)]
      · obtain ⟨f, rfl, hf⟩ := gs hf
        rw [law_answer_s]
        simp [b_law_answer, rowD, ih2 f A (by omega)]
    · subst h1
      obtain ⟨g, hg⟩ := pick (P := fun e b => Ans n r e b) fun e (he : e ∈ es) => ans_ok hm hr (by omega) (h4 e he)
      have hl : es.length ≤ 16777216 := by omega
      have el : es.length < 16777216 := by omega
      have hp : ∀ e ∈ es, Pyd (3 * n) (64 * t) e := fun e he => (h4 e he).py hm
      have L1 : ∀ (c : Option D) f A, 2 * n ≤ f → lcD (fun _ => True) (tgN 3) mYes (mCall (m_answer f) [] (mArgs (mVar 3) (mArgs (mVar 1) mArgs0))) [c, some (.tup (r.map D.bl)), none, none] es [] A = .ok ((es.map g).map D.bl) A := fun c f A hf => by
        rw [lcD_map (fun e => .bl (g e)) trivial hl fun e he => ?_]
        · simp
        have := (hg e he).1 f A hf
        unfold rowD at this
        exact ⟨_, tgN_e, by simp [this]⟩
      have L2 : ∀ (c : Option D) f A, n ≤ f → lcD (fun _ => True) (tgN 4) (mTru (mCall (m_law_answer f) [] (mArgs (mVar 4) (mArgs (mVar 1) mArgs0)))) (mVar 4) [c, some (.tup (r.map D.bl)), none, none, none] es [] A = .ok (es.filter g) A := fun c f A hf => by
        rw [lcD_pure g (fun e => e) trivial (by simpa using hl) fun e he => ?_]
        · simp
        have := (hg e he).2 f A hf
        unfold rowD at this
        exact ⟨_, tgN_e, by simp [this], fun _ => by simp⟩
      have L3 : ∀ (c : Option D) f A, n ≤ f → lcD (fun _ => True) (tgN 4) (mNotT (mTru (mCall (m_law_answer f) [] (mArgs (mVar 4) (mArgs (mVar 1) mArgs0))))) (mVar 4) [c, some (.tup (r.map D.bl)), none, none, none] es [] A = .ok (es.filter fun e => !g e) A := fun c f A hf => by
        rw [lcD_pure (fun e => !g e) (fun e => e) trivial (by simpa using hl) fun e he => ?_]
        · simp
        have := (hg e he).2 f A hf
        unfold rowD at this
        exact ⟨_, tgN_e, by simp [this], fun _ => by simp⟩
      have F1 : (es.filter g).length < 16777216 := Nat.lt_of_le_of_lt (List.length_filter_le ..) el
      have F2 : (es.filter fun e => !g e).length < 16777216 := Nat.lt_of_le_of_lt (List.length_filter_le ..) el
      have E1 := fun A => (eq_lnil (ds := es.filter g) (A := A) (by omega) fun e he => hp e (List.mem_filter.mp he).1).2
      have E2 := fun A => (eq_lnil (ds := es.filter fun e => !g e) (A := A) (by omega) fun e he => hp e (List.mem_filter.mp he).1).1
      have B1 : (!(es.filter g).isEmpty) = es.any g := by
        rw [Bool.eq_iff_iff]; simp
      have B2 : (es.filter fun e => !g e).isEmpty = es.all g := by
        rw [Bool.eq_iff_iff]; simp
      rw [B1] at E1
      rw [B2] at E2
      cases w
      · refine ⟨es.any g, fun f A hf => ?_, fun f A hf => ?_⟩
        · obtain ⟨f, rfl, hf⟩ := fs hf
          rw [answer_s]
          simp [b_answer, rowD, wipeD, L1 _ (f + 1) A (by omega), el, -List.map_map]
        · obtain ⟨f, rfl, hf'⟩ := gs hf
          rw [law_answer_s]
          simp [b_law_answer, rowD, wipeD, L2 _ f A hf', F1, E1]
      · refine ⟨es.all g, fun f A hf => ?_, fun f A hf => ?_⟩
        · obtain ⟨f, rfl, hf⟩ := fs hf
          rw [answer_s]
          simp [b_answer, rowD, wipeD, L1 _ (f + 1) A (by omega), el, -List.map_map]
        · obtain ⟨f, rfl, hf'⟩ := gs hf
          rw [law_answer_s]
          simp [b_law_answer, rowD, wipeD, L3 _ f A hf', F2, E2]
    · subst h1
      obtain ⟨g, hg⟩ := pick (Q := fun e => Dec m n t e) (P := fun e b => Ans n r e b) fun e he => ans_ok hm hr (by omega) he
      have ee := hg e h5
      unfold Ans rowD at ee
      have LP : ∀ f A, 2 * n ≤ f → ∀ (ps : List (D × D)), (∀ p ∈ ps, Dec m n t p.1 ∧ Dec m n t p.2) → ∀ (c x y : Option D), ∃ x' y', forD (fun _ => True) (tgT 2 (tgsCons (tgN 2) (tgsCons (tgN 3) tgsNil))) (sIf (mTru (mCall (m_answer f) [] (mArgs (mVar 2) (mArgs (mVar 1) mArgs0)))) (sRet (mCall (m_answer f) [] (mArgs (mVar 3) (mArgs (mVar 1) mArgs0)))) sPass) (ps.map fun p => .tup [p.1, p.2]) [c, some (.tup (r.map D.bl)), x, y] A = (match ps.find? (fun p => g p.1) with | some p => .ok (.rt (.bl (g p.2))) A | none => .ok (.nx [c, some (.tup (r.map D.bl)), x', y']) A) := fun f A hf ps => by
        induction ps with
        | nil => intro _ c x y; exact ⟨x, y, by simp [forD]⟩
        | cons p ps ih =>
          intro hps c x y
          obtain ⟨d1, d2⟩ := hps p (List.mem_cons_self ..)
          have a1 := (hg _ d1).1 f A hf
          have a2 := (hg _ d2).1 f A hf
          unfold rowD at a1 a2
          obtain ⟨x', y', e'⟩ := ih (fun q hq => hps q (List.mem_cons_of_mem _ hq)) c (some p.1) (some p.2)
          refine ⟨x', y', ?_⟩
          rw [List.map_cons, forD, if_pos trivial]
          cases hb : g p.1 with
          | true => simp [a1, a2, hb]
          | false => simp [a1, hb, e']
      have LL : ∀ f A, n ≤ f → ∀ (ps : List (D × D)), (∀ p ∈ ps, Dec m n t p.1 ∧ Dec m n t p.2) → ∀ (c x y z : Option D), ∃ x' y', forD (fun _ => True) (tgT 2 (tgsCons (tgN 2) (tgsCons (tgN 3) tgsNil))) (sIf (mTru (mCall (m_law_answer f) [] (mArgs (mVar 2) (mArgs (mVar 1) mArgs0)))) (sRet (mCall (m_law_answer f) [] (mArgs (mVar 3) (mArgs (mVar 1) mArgs0)))) sPass) (ps.map fun p => .tup [p.1, p.2]) [c, some (.tup (r.map D.bl)), x, y, z] A = (match ps.find? (fun p => g p.1) with | some p => .ok (.rt (.bl (g p.2))) A | none => .ok (.nx [c, some (.tup (r.map D.bl)), x', y', z]) A) := fun f A hf ps => by
        induction ps with
        | nil => intro _ c x y z; exact ⟨x, y, by simp [forD]⟩
        | cons p ps ih =>
          intro hps c x y z
          obtain ⟨d1, d2⟩ := hps p (List.mem_cons_self ..)
          have a1 := (hg _ d1).2 f A hf
          have a2 := (hg _ d2).2 f A hf
          unfold rowD at a1 a2
          obtain ⟨x', y', e'⟩ := ih (fun q hq => hps q (List.mem_cons_of_mem _ hq)) c (some p.1) (some p.2) z
          refine ⟨x', y', ?_⟩
          rw [List.map_cons, forD, if_pos trivial]
          cases hb : g p.1 with
          | true => simp [a1, a2, hb]
          | false => simp [a1, hb, e']
      refine ⟨match ps.find? (fun p => g p.1) with | some p => g p.2 | none => g e, fun f A hf => ?_, fun f A hf => ?_⟩
      · obtain ⟨f, rfl, hf'⟩ := fs hf
        rw [answer_s]
        obtain ⟨x', y', e'⟩ := LP f A hf' ps h4 (some (.tup [.str "cases", .tup (ps.map fun p => .tup [p.1, p.2]), e])) none none
        have ec := ee.1 f A hf'
        cases hfd : ps.find? (fun p => g p.1) <;> rw [hfd] at e' <;> simp [b_answer, rowD, answer_cases_s, b_answer_cases, e', ec]
      · obtain ⟨f, rfl, hf'⟩ := gs hf
        rw [law_answer_s]
        obtain ⟨x', y', e'⟩ := LL f A hf' ps h4 (some (.tup [.str "cases", .tup (ps.map fun p => .tup [p.1, p.2]), e])) none none none
        have ec := ee.2 f A hf'
        cases hfd : ps.find? (fun p => g p.1) <;> rw [hfd] at e' <;> simp [b_law_answer, rowD, e', ec]
end Mb
end
section
namespace Vi
open PySem PySem.Spec L2
end Vi
namespace Vi
open PySem PySem.Spec L2
end Vi
namespace Mb
open PySem PySem.Spec L2 Vi
structure Ps (n : Nat) (A A' : List O) : Prop where
  pl : Pl n A'
  gr : Grow n A A'
  len : A'.length = A.length
theorem Ps.refl {n : Nat} {A : List O} (h : Pl n A) : Ps n A A := ⟨h, .rfl, rfl⟩
theorem Ps.trans {n : Nat} {A B C : List O} (h : Ps n A B) (k : Ps n B C) : Ps n A C := ⟨k.pl, h.gr.trans k.gr, k.len.trans h.len⟩
@[simp] theorem Ps.trim {n : Nat} {A A' : List O} (h : Ps n A A') {d : D} : trimR A (.ok d A') = .ok d A' := trimR_len h.len
theorem take_p {n : Nat} {A : List O} (h : Pl n A) {m : Int} (h0 : 0 < m) (h1 : m < 4611686018427387904) :
    ∃ (d : Int) (A' : List O), 0 ≤ d ∧ d < m ∧ m_law_take [.ref n, .int m] A = .ok (.int d) A' ∧ Ps n A A' := by
  obtain ⟨d, A', h2, h3, h4, h5, h6⟩ := take_ok h h0 h1
  exact ⟨d, A', Int.natCast_nonneg _, h2, h3, ⟨h4, h5, h6⟩⟩
end Mb
end
section
namespace Mb
open PySem PySem.Spec L2 Vi
noncomputable def b_is_whole : SM :=
  (sRet (mAnd (mA fIsi (mArgs (mVar 0) (mArgs (mC (.ty .int)) mArgs0))) (m1 dNot (mA fIsi (mArgs (mVar 0) (mArgs (mC (.ty .bool)) mArgs0))))))
noncomputable def m_is_whole : List D → List O → R D := runB 1 b_is_whole
noncomputable def b_is_within : SM :=
  (sRet (mAnd (mCall m_is_whole [] (mArgs (mVar 0) mArgs0)) (mChain dLe dLe (mVar 1) (mVar 0) (mVar 2))))
noncomputable def m_is_within : List D → List O → R D := runB 3 b_is_within
noncomputable def b_inner_parts : SM :=
  (sSeq (sIf (mBl (m2 dEq (m2 dIx (mVar 0) (mC (.int 0))) (mC (.str "not"))))
  (sRet (mA (newL true) (mArgs (m2 dIx (mVar 0) (mC (.int 1))) mArgs0)))
  sPass)
  (sSeq (sIf (mBl (m2 (dIn false) (m2 dIx (mVar 0) (mC (.int 0))) (mA fTup (mArgs (mC (.str "and")) (mArgs (mC (.str "or")) mArgs0)))))
  (sRet (mA (fListOf true) (mArgs (m2 dIx (mVar 0) (mC (.int 1))) mArgs0)))
  sPass)
  (sSeq (sIf (mBl (m2 dEq (m2 dIx (mVar 0) (mC (.int 0))) (mC (.str "cases"))))
  (sSeq (sSet 1 (mA (newL false) mArgs0))
  (sSeq (sFor (mSrc (m2 dIx (mVar 0) (mC (.int 1)))) (tgT 2 (tgsCons (tgN 2) (tgsCons (tgN 3) tgsNil)))
  (sExpr (mMeth isL fExtend (mVar 1) (mArgs (mA (newL true) (mArgs (mVar 2) (mArgs (mVar 3) mArgs0))) mArgs0))))
  (sRet (m2 (dAdd true) (mVar 1) (mA (newL true) (mArgs (m2 dIx (mVar 0) (mC (.int 2))) mArgs0))))))
  sPass)
  (sRet (mA (newL true) mArgs0)))))
noncomputable def m_inner_parts : List D → List O → R D := runB 4 b_inner_parts
noncomputable def b_are_rows : SM :=
  (sSeq (sIf (mOrT (mNotT (mTru (mA fIsi (mArgs (mVar 0) (mArgs (mC (.ty .tuple)) mArgs0))))) (mNotT (mBl (mChain dLe dLe (mC (.int 1)) (mA fLen (mArgs (mVar 0) mArgs0)) (mC (.int 4))))))
  (sRet (mC (.bl false)))
  sPass)
  (sRet (mA fAll (mArgs (mLc true (mSrc (mVar 0)) (tgN 1) mYes (mAnd (mA fIsi (mArgs (mVar 1) (mArgs (mC (.ty .tuple)) mArgs0))) (m2 dEq (mA fLen (mArgs (mVar 1) mArgs0)) (mC (.int 2)))) [1]) mArgs0))))
noncomputable def m_are_rows : List D → List O → R D := runB 2 b_are_rows
noncomputable def b_is_form : SM :=
  (sSeq (sIf (mOrT (mNotT (mTru (mA fIsi (mArgs (mVar 0) (mArgs (mC (.ty .tuple)) mArgs0))))) (mOrT (mBl (m2 dEq (mVar 0) (mA fTup mArgs0))) (mNotT (mTru (mA fIsi (mArgs (m2 dIx (mVar 0) (mC (.int 0))) (mArgs (mC (.ty .str)) mArgs0)))))))
  (sRet (mC (.bl false)))
  sPass)
  (sSeq (sIf (mBl (m2 (dIn false) (m2 dIx (mVar 0) (mC (.int 0))) (mA fTup (mArgs (mC (.str "yes")) (mArgs (mC (.str "no")) mArgs0)))))
  (sRet (m2 dEq (mA fLen (mArgs (mVar 0) mArgs0)) (mC (.int 1))))
  sPass)
  (sSeq (sIf (mBl (m2 dEq (m2 dIx (mVar 0) (mC (.int 0))) (mC (.str "cases"))))
  (sRet (mAnd (m2 dEq (mA fLen (mArgs (mVar 0) mArgs0)) (mC (.int 3))) (mCall m_are_rows [] (mArgs (m2 dIx (mVar 0) (mC (.int 1))) mArgs0))))
  sPass)
  (sSeq (sIf (mBl (m2 dNe (mA fLen (mArgs (mVar 0) mArgs0)) (mC (.int 2))))
  (sRet (mC (.bl false)))
  sPass)
  (sSeq (sIf (mBl (m2 dEq (m2 dIx (mVar 0) (mC (.int 0))) (mC (.str "wish"))))
  (sRet (mCall m_is_within [] (mArgs (m2 dIx (mVar 0) (mC (.int 1))) (mArgs (mC (.int 0)) (mArgs (m2 dSub (mVar 1) (mC (.int 1))) mArgs0)))))
  sPass)
  (sSeq (sIf (mBl (m2 dEq (m2 dIx (mVar 0) (mC (.int 0))) (mC (.str "not"))))
  (sRet (mC (.bl true)))
  sPass)
  (sRet (mAnd (m2 (dIn false) (m2 dIx (mVar 0) (mC (.int 0))) (mA fTup (mArgs (mC (.str "and")) (mArgs (mC (.str "or")) mArgs0)))) (mAnd (mA fIsi (mArgs (m2 dIx (mVar 0) (mC (.int 1))) (mArgs (mC (.ty .tuple)) mArgs0))) (mChain dLe dLe (mC (.int 1)) (mA fLen (mArgs (m2 dIx (mVar 0) (mC (.int 1))) mArgs0)) (mC (.int 6))))))))))))
noncomputable def m_is_form : List D → List O → R D := runB 2 b_is_form
noncomputable def b_parts_of (r_parts_of : List D → List O → R D) : SM :=
  (sSeq (sIf (mOrT (mBl (m2 dLt (mVar 2) (mC (.int 1)))) (mNotT (mTru (mCall m_is_form [] (mArgs (mVar 0) (mArgs (mVar 1) mArgs0))))))
  (sRet (mC .non))
  sPass)
  (sSeq (sSet 3 (mC (.int 1)))
  (sSeq (sFor (mSrc (mCall m_inner_parts [] (mArgs (mVar 0) mArgs0))) (tgN 4)
  (sSeq (sSet 5 (mCall r_parts_of [] (mArgs (mVar 4) (mArgs (mVar 1) (mArgs (m2 dSub (mVar 2) (mC (.int 1))) mArgs0)))))
  (sSeq (sIf (mOrT (mBl (m2 dIs (mVar 5) (mC .non))) (mBl (m2 dGt (m2 (dAdd true) (mVar 3) (mVar 5)) (mC (.int 60)))))
  (sRet (mC .non))
  sPass)
  (sAug 3 dAddI (mVar 5)))))
  (sRet (mVar 3)))))
noncomputable def m_parts_of : Nat → List D → List O → R D
  | 0 => fun _ _ => .no
  | n + 1 => runB 6 (b_parts_of (m_parts_of n))
noncomputable def b_is_decision : SM :=
  (sRet (m2 dIsNot (mCall (m_parts_of 16) [] (mArgs (mVar 0) (mArgs (mVar 1) (mArgs (mC (.int 12)) mArgs0)))) (mC .non)))
noncomputable def m_is_decision : List D → List O → R D := runB 2 b_is_decision
def Fl (d : D) : Prop := d = .non ∨ (∃ b, d = .bl b) ∨ (∃ i, d = .int i) ∨ ∃ s, d = .str s ∧ PyData.strOk s = true
def Dat : Nat → D → Prop
  | 0, d => Fl d
  | n + 1, d => Fl d ∨ ∃ ds, (d = .tup ds ∨ d = .lst ds) ∧ ∀ e ∈ ds, Dat n e
theorem Dat.mono : ∀ {n k : Nat} {d : D}, Dat n d → n ≤ k → Dat k d
  | 0, 0, d, h, _ => h
  | 0, k + 1, d, h, _ => .inl h
  | n + 1, 0, d, h, hk => absurd hk (by omega)
  | n + 1, k + 1, d, h, hk => by
    rcases h with h | ⟨ds, h1, h2⟩
    · exact .inl h
    · exact .inr ⟨ds, h1, fun e he => (h2 e he).mono (by omega)⟩
theorem Dat.noR : ∀ {n : Nat} {d : D}, Dat n d → noR d = true
  | 0, d, h => by rcases h with rfl | ⟨b, rfl⟩ | ⟨i, rfl⟩ | ⟨s, rfl, _⟩ <;> simp
  | n + 1, d, h => by
    rcases h with (rfl | ⟨b, rfl⟩ | ⟨i, rfl⟩ | ⟨s, rfl, _⟩) | ⟨ds, rfl | rfl, h⟩
    · simp
    · simp
    · simp
    · simp
    · rw [noR_tup]; exact List.all_eq_true.mpr fun e he => (h e he).noR
    · rw [noR_lst]; exact List.all_eq_true.mpr fun e he => (h e he).noR
theorem Dat.tup {n : Nat} {ds : List D} (h : ∀ e ∈ ds, Dat n e) : Dat (n + 1) (.tup ds) := .inr ⟨ds, .inl rfl, h⟩
theorem Dat.str {n : Nat} {s : Str} (h : PyData.strOk s = true) : Dat n (.str s) := by cases n with
  | zero => exact .inr (.inr (.inr ⟨s, rfl, h⟩))
  | succ n => exact .inl (.inr (.inr (.inr ⟨s, rfl, h⟩)))
theorem Dat.int {n : Nat} {i : Int} : Dat n (.int i) := by cases n with
  | zero => exact .inr (.inr (.inl ⟨i, rfl⟩))
  | succ n => exact .inl (.inr (.inr (.inl ⟨i, rfl⟩)))
theorem Dat.of_tup {n : Nat} {ds : List D} (h : Dat n (.tup ds)) : ∀ e ∈ ds, Dat n e := by
  cases n with
  | zero => rcases h with h | ⟨_, h⟩ | ⟨_, h⟩ | ⟨_, h, _⟩ <;> cases h
  | succ n =>
    rcases h with h | ⟨es, h1, h2⟩
    · rcases h with h | ⟨_, h⟩ | ⟨_, h⟩ | ⟨_, h, _⟩ <;> cases h
    · rcases h1 with h1 | h1
      · cases h1; exact fun e he => (h2 e he).mono (by omega)
      · cases h1
theorem Dat.py : ∀ {n : Nat} {d : D}, Dat n d → ∃ x, (∀ A j, n ≤ j → py A j d = some x) ∧ x.canLay0 = true ∧ x.depth ≤ n := by
  have flat : ∀ {n : Nat} {d : D}, Fl d → ∃ x, (∀ A j, n ≤ j → Vi.py A j d = some x) ∧ x.canLay0 = true ∧ x.depth ≤ n := by
    intro n d h
    rcases h with rfl | ⟨b, rfl⟩ | ⟨i, rfl⟩ | ⟨s, rfl, hs⟩
    · exact ⟨.none, fun _ j _ => by cases j <;> rfl, rfl, Nat.zero_le _⟩
    · exact ⟨.bool b, fun _ j _ => by cases j <;> rfl, rfl, Nat.zero_le _⟩
    · exact ⟨.int i, fun _ j _ => by cases j <;> rfl, rfl, Nat.zero_le _⟩
    · exact ⟨.str s, fun _ j _ => by cases j <;> rfl, by simpa [PyData.canLay0] using hs, Nat.zero_le _⟩
  intro n
  induction n with
  | zero => intro d h; exact flat h
  | succ n ih =>
    intro d h
    rcases h with h | ⟨ds, h1, h2⟩
    · exact flat h
    · have hl : ∃ xs, (∀ A j, n ≤ j → pys (Vi.py A j) ds = some xs) ∧ PyData.canLayAll0 xs = true ∧ PyData.depthAll xs ≤ n := by
        clear h1
        induction ds with
        | nil => exact ⟨[], fun _ _ _ => rfl, rfl, Nat.zero_le _⟩
        | cons e ds ihd =>
          obtain ⟨x, a1, a2, a3⟩ := ih (h2 e (List.mem_cons_self ..))
          obtain ⟨xs, b1, b2, b3⟩ := ihd fun e' he => h2 e' (List.mem_cons_of_mem _ he)
          exact ⟨x :: xs, fun A j hj => by rw [pys, a1 A j hj, b1 A j hj]; rfl, by simp [PyData.canLayAll0, a2, b2], by simp only [PyData.depthAll]; omega⟩
      obtain ⟨xs, b1, b2, b3⟩ := hl
      rcases h1 with rfl | rfl
      · refine ⟨.tuple xs, fun A j hj => ?_, by simpa [PyData.canLay0] using b2, by simp only [PyData.depth]; omega⟩
        obtain ⟨i, rfl⟩ : ∃ i, j = i + 1 := ⟨j - 1, by omega⟩
        show (pys (Vi.py A i) ds).map _ = _
        rw [b1 A i (by omega)]; rfl
      · refine ⟨.list xs, fun A j hj => ?_, by simpa [PyData.canLay0] using b2, by simp only [PyData.depth]; omega⟩
        obtain ⟨i, rfl⟩ : ∃ i, j = i + 1 := ⟨j - 1, by omega⟩
        show (pys (Vi.py A i) ds).map _ = _
        rw [b1 A i (by omega)]; rfl
theorem eq_tnil {n : Nat} {ds : List D} {A : List O} (h : Dat n (.tup ds)) (hn : n ≤ 64) : dEq (.tup ds) (.tup []) A = .ok (.bl ds.isEmpty) A := by
  obtain ⟨x, h1, h2, h3⟩ := h.py
  have e := h1 A 64 hn
  have e0 := e
  replace e : (pys (Vi.py A 63) ds).map PyData.tuple = some x := e
  obtain ⟨xs, e1, rfl⟩ := Option.map_eq_some_iff.mp e
  have hs : SeqAt.shaped (.tuple xs) = true := by
    simp only [SeqAt.shaped, Bool.and_eq_true]
    exact ⟨h2, by simp; omega⟩
  have e2 : Vi.py A 64 (.tup []) = some (.tuple []) := rfl
  show dEqD _ _ A = _
  unfold dEqD
  rw [e0, e2]
  simp only [hs]
  cases ds with
  | nil => cases e1; rfl
  | cons d ds =>
    rw [pys] at e1
    obtain ⟨y, _, hy⟩ := Option.bind_eq_some_iff.mp e1
    obtain ⟨ys, _, rfl⟩ := Option.map_eq_some_iff.mp hy
    rfl
def within (x : D) (lo hi : Int) : Bool := match x with
  | .int i => decide (lo ≤ i) && decide (i ≤ hi)
  | _ => false
def isPair : D → Bool
  | .tup ds => ds.length == 2
  | _ => false
def rowsOk : D → Bool
  | .tup rs => decide (1 ≤ rs.length) && decide (rs.length ≤ 4) && rs.all isPair
  | _ => false
def isTup : D → Bool
  | .tup _ => true
  | _ => false
def formOk (many : Int) (d : D) : Bool := match d with
  | .tup (.str w :: r) =>
    if w = ("yes" : Str) ∨ w = ("no" : Str) then r.isEmpty
    else if w = ("cases" : Str) then (match r with | [rows, _] => rowsOk rows | _ => false)
    else match r with
      | [x] => if w = ("wish" : Str) then within x 0 (many - 1) else if w = ("not" : Str) then true
        else if w = ("and" : Str) ∨ w = ("or" : Str) then (match x with | .tup es => decide (1 ≤ es.length) && decide (es.length ≤ 6) | _ => false) else false
      | _ => false
  | _ => false
def pairOf : D → List D
  | .tup ds => ds
  | _ => []
def inner (d : D) : List D := match d with
  | .tup (.str w :: r) =>
    if w = ("not" : Str) then (match r with | e :: _ => [e] | _ => [])
    else if w = ("and" : Str) ∨ w = ("or" : Str) then (match r with | .tup es :: _ => es | _ => [])
    else if w = ("cases" : Str) then (match r with | .tup rs :: e :: _ => rs.flatMap pairOf ++ [e] | _ => [])
    else []
  | _ => []
def okF (many : Int) : Nat → D → Bool
  | 0, _ => false
  | n + 1, d => formOk many d && (inner d).all (okF many n)
def szF : Nat → D → Nat
  | 0, _ => 0
  | n + 1, d => 1 + ((inner d).map (szF n)).sum
section
variable {A : List O}
@[simp] theorem isi_tt {ds : List D} : fIsi [.tup ds, .ty .tuple] A = .ok (.bl true) A := rfl
theorem isi_tuple {n : Nat} {d : D} (h : Dat n d) : fIsi [d, .ty .tuple] A = .ok (.bl (isTup d)) A := by
  cases n with
  | zero => rcases h with rfl | ⟨_, rfl⟩ | ⟨_, rfl⟩ | ⟨_, rfl, _⟩ <;> rfl
  | succ n => rcases h with (rfl | ⟨_, rfl⟩ | ⟨_, rfl⟩ | ⟨_, rfl, _⟩) | ⟨ds, rfl | rfl, _⟩ <;> rfl
def isInt : D → Bool
  | .int _ => true
  | .bl _ => true
  | _ => false
def isBl : D → Bool
  | .bl _ => true
  | _ => false
def isStr : D → Bool
  | .str _ => true
  | _ => false
theorem isi_int {n : Nat} {d : D} (h : Dat n d) : fIsi [d, .ty .int] A = .ok (.bl (isInt d)) A := by
  cases n with
  | zero => rcases h with rfl | ⟨_, rfl⟩ | ⟨_, rfl⟩ | ⟨_, rfl, _⟩ <;> rfl
  | succ n => rcases h with (rfl | ⟨_, rfl⟩ | ⟨_, rfl⟩ | ⟨_, rfl, _⟩) | ⟨ds, rfl | rfl, _⟩ <;> rfl
theorem isi_bool {n : Nat} {d : D} (h : Dat n d) : fIsi [d, .ty .bool] A = .ok (.bl (isBl d)) A := by
  cases n with
  | zero => rcases h with rfl | ⟨_, rfl⟩ | ⟨_, rfl⟩ | ⟨_, rfl, _⟩ <;> rfl
  | succ n => rcases h with (rfl | ⟨_, rfl⟩ | ⟨_, rfl⟩ | ⟨_, rfl, _⟩) | ⟨ds, rfl | rfl, _⟩ <;> rfl
theorem isi_str {n : Nat} {d : D} (h : Dat n d) : fIsi [d, .ty .str] A = .ok (.bl (isStr d)) A := by
  cases n with
  | zero => rcases h with rfl | ⟨_, rfl⟩ | ⟨_, rfl⟩ | ⟨_, rfl, _⟩ <;> rfl
  | succ n => rcases h with (rfl | ⟨_, rfl⟩ | ⟨_, rfl⟩ | ⟨_, rfl, _⟩) | ⟨ds, rfl | rfl, _⟩ <;> rfl
theorem is_whole_ok {n : Nat} {d : D} (h : Dat n d) : m_is_whole [d] A = .ok (.bl (isInt d && !isBl d)) A := by
  have e1 := fun A => isi_int (A := A) h
  have e2 := fun A => isi_bool (A := A) h
  cases hi : isInt d <;> simp [m_is_whole, b_is_whole, e1, e2, hi]
theorem is_within_ok {n : Nat} {d : D} {lo hi : Int} (h : Dat n d) : m_is_within [d, .int lo, .int hi] A = .ok (.bl (within d lo hi)) A := by
  have e := fun A => is_whole_ok (A := A) h
  cases d with
  | int i =>
    have e' := fun A => e A
    simp only [isInt, isBl, Bool.not_false, Bool.and_self] at e'
    by_cases hl : lo ≤ i <;> simp [m_is_within, b_is_within, e', within, hl]
  | _ =>
    simp only [isInt, isBl, Bool.not_false, Bool.not_true, Bool.and_self, Bool.and_false, Bool.false_and] at e
    simp [m_is_within, b_is_within, e, within]
end
end Mb
end
section
namespace Mb
open PySem PySem.Spec L2 Vi
section
variable {A : List O}
theorem are_rows_ok {n : Nat} {d : D} (h : Dat n d) : m_are_rows [d] A = .ok (.bl (rowsOk d)) A := by
  have e := isi_tuple (A := A) h
  cases d with
  | tup rs =>
    have lc : rs.length ≤ 4 → lcD (fun _ => True) (tgN 1) mYes (mAnd (mA fIsi (mArgs (mVar 1) (mArgs (mC (.ty .tuple)) mArgs0))) (m2 dEq (mA fLen (mArgs (mVar 1) mArgs0)) (mC (.int 2)))) [some (.tup rs), none] rs [] A = .ok ((rs.map isPair).map D.bl) A := fun h4 => by
      rw [lcD_map (fun e => .bl (isPair e)) trivial (by omega) fun e he => ?_]
      · simp
      have hd := h.of_tup e he
      refine ⟨_, tgN_e, ?_⟩
      have e1 := isi_tuple (A := A) hd
      cases e with
      | tup ds =>
        have : ((ds.length : Int) == 2) = (ds.length == 2) := by
          rw [Bool.eq_iff_iff]; simp; omega
        simp [isPair, this]
      | _ =>
        simp only [isTup] at e1
        simp [e1, isPair]
    by_cases h1 : (1 : Int) ≤ rs.length
    · by_cases h4 : (rs.length : Int) ≤ 4
      · have l4 : rs.length ≤ 4 := by omega
        have l5 : rs.length < 16777216 := by omega
        have l6 : 1 ≤ rs.length := by omega
        have lc := lc l4
        have ha : rs.all isPair = (rs.map isPair).all id := by simp
        simp [m_are_rows, b_are_rows, rowsOk, h1, h4, l4, l6, wipeD, lc, l5, -List.map_map]
      · have l4 : ¬ rs.length ≤ 4 := by omega
        simp [m_are_rows, b_are_rows, rowsOk, h1, h4, l4]
    · have l4 : ¬ 1 ≤ rs.length := by omega
      have l5 : rs = [] := by cases rs with
        | nil => rfl
        | cons => simp at l4
      subst l5
      simp [m_are_rows, b_are_rows, rowsOk]
  | _ =>
    simp only [isTup] at e
    simp [m_are_rows, b_are_rows, rowsOk, e]
theorem is_form_ok {n : Nat} {d : D} (h : Dat n d) (hn : n ≤ 64) {many : Int} : m_is_form [d, .int many] A = .ok (.bl (formOk many d)) A := by
  have e := isi_tuple (A := A) h
  cases d with
  | tup ds =>
    have e2 := eq_tnil (A := A) h hn
    cases ds with
    | nil =>
      simp [m_is_form, b_is_form, e2, formOk]
    | cons w r =>
      have hw := h.of_tup w (List.mem_cons_self ..)
      have e3 := isi_str (A := A) hw
      cases w with
      | str w =>
        simp only [isStr] at e3
        have e4 : ((r.length : Int) + 1 == 1) = r.isEmpty := by
          rw [Bool.eq_iff_iff]; cases r <;> simp; omega
        by_cases h1 : w = ("yes" : Str)
        · subst h1
          simp [m_is_form, b_is_form, e2, e3, formOk, e4]
        by_cases h2 : w = ("no" : Str)
        · subst h2
          simp [m_is_form, b_is_form, e2, e3, formOk, e4]
        have h1' : ¬ ("yes" : Str) = w := fun h => h1 h.symm
        have h2' : ¬ ("no" : Str) = w := fun h => h2 h.symm
        by_cases h3 : w = ("cases" : Str)
        · subst h3
          have hr := h.of_tup
          match r, e4 with
          | [], _ => simp [m_is_form, b_is_form, e2, e3, formOk]
          | [x], _ => simp [m_is_form, b_is_form, e2, e3, formOk]
          | [x, y], _ =>
            have e5 := are_rows_ok (A := A) (h.of_tup x (by simp))
            simp [m_is_form, b_is_form, e2, e3, formOk, e5]
          | x :: y :: z :: q, _ =>
            have e6 : ((q.length : Int) + 1 + 1 + 1 + 1 == 3) = false := by
              rw [beq_eq_false_iff_ne]; omega
            simp [m_is_form, b_is_form, e2, e3, formOk, e6]
        match r, e4 with
        | [], _ => simp [m_is_form, b_is_form, e2, e3, formOk, h1, h2, h3, h1', h2']
        | x :: y :: q, _ =>
          have e6 : ((q.length : Int) + 1 + 1 + 1 == 2) = false := by
            rw [beq_eq_false_iff_ne]; omega
          simp [m_is_form, b_is_form, e2, e3, formOk, h1, h2, h3, h1', h2', e6]
        | [x], _ =>
          have hx := h.of_tup x (by simp)
          have e5 := is_within_ok (A := A) (lo := 0) (hi := many - 1) hx
          by_cases h4 : w = ("wish" : Str)
          · subst h4
            simp [m_is_form, b_is_form, e2, e3, formOk, e5]
          by_cases h5 : w = ("not" : Str)
          · subst h5
            simp [m_is_form, b_is_form, e2, e3, formOk]
          have e7 := isi_tuple (A := A) hx
          have lens : ∀ es : List D, (decide ((1 : Int) ≤ es.length) && decide ((es.length : Int) ≤ 6)) = (decide (1 ≤ es.length) && decide (es.length ≤ 6)) := fun es => by
            rw [Bool.eq_iff_iff]; simp; omega
          by_cases h6 : w = ("and" : Str) ∨ w = ("or" : Str)
          · cases x with
            | tup es =>
              by_cases g1 : (1 : Int) ≤ es.length
              · have g2 : 1 ≤ es.length := by omega
                rcases h6 with rfl | rfl <;> simp [m_is_form, b_is_form, e2, e3, formOk, g1, g2] <;> omega
              · have g2 : ¬ 1 ≤ es.length := by omega
                rcases h6 with rfl | rfl <;> simp [m_is_form, b_is_form, e2, e3, formOk, g1, g2]
            | _ =>
              simp only [isTup] at e7
              rcases h6 with rfl | rfl <;> simp [m_is_form, b_is_form, e2, e3, formOk, e7]
          · have h7 : ¬ w = ("and" : Str) := fun h => h6 (.inl h)
            have h8 : ¬ w = ("or" : Str) := fun h => h6 (.inr h)
            have h7' : ¬ ("and" : Str) = w := fun h => h7 h.symm
            have h8' : ¬ ("or" : Str) = w := fun h => h8 h.symm
            simp [m_is_form, b_is_form, e2, e3, formOk, h1, h2, h3, h1', h2', h4, h5, h7, h8, h7', h8']
      | _ =>
        simp only [isStr] at e3
        simp [m_is_form, b_is_form, e2, e3, formOk]
  | _ =>
    simp only [isTup] at e
    simp [m_is_form, b_is_form, e, formOk]
end
end Mb
end
section
namespace Vi
open PySem PySem.Spec L2
theorem fExtend_e {l : Nat} {A : List O} {ds es : List D} {y : D} (h : A[l]? = some (.lst ds)) (hy : lstOf y A = some es) (hl : ds.length + es.length ≤ 16777216) : fExtend (.ref l) [y] A = .ok .non (A.set l (.lst (ds ++ es))) := by
  unfold fExtend
  simp only [ourL_r, h, hy]
  rw [sizeLine_eq, if_pos hl]
@[simp] theorem get_last {A : List O} {o : O} : (A ++ [o])[A.length]? = some o := by simp
end Vi
namespace Mb
open PySem PySem.Spec L2 Vi
theorem rows_pairs {rs : List D} (h : rs.all isPair = true) : ∃ ps : List (D × D), rs = ps.map fun p => .tup [p.1, p.2] := by
  induction rs with
  | nil => exact ⟨[], rfl⟩
  | cons r rs ih =>
    simp only [List.all_cons, Bool.and_eq_true] at h
    obtain ⟨ps, rfl⟩ := ih h.2
    have h1 := h.1
    cases r with
    | tup ds =>
      match ds, h1 with
      | [a, b], _ => exact ⟨(a, b) :: ps, rfl⟩
    | _ => cases h1
theorem form_cases {many : Int} {d : D} (h : formOk many d = true) :
    d = .tup [.str "yes"] ∨ d = .tup [.str "no"] ∨ (∃ k : Int, 0 ≤ k ∧ k ≤ many - 1 ∧ d = .tup [.str "wish", .int k]) ∨ (∃ e, d = .tup [.str "not", e]) ∨
    (∃ (w : Bool) (es : List D), d = .tup [.str (if w then "and" else "or"), .tup es] ∧ 1 ≤ es.length ∧ es.length ≤ 6) ∨
    (∃ (ps : List (D × D)) (e : D), d = .tup [.str "cases", .tup (ps.map fun p => .tup [p.1, p.2]), e] ∧ 1 ≤ ps.length ∧ ps.length ≤ 4) := by
  unfold formOk at h
  split at h
  · rename_i w r
    split at h
    · rename_i hw
      have : r = [] := by cases r <;> simp_all
      subst this
      rcases hw with rfl | rfl
      · exact .inl rfl
      · exact .inr (.inl rfl)
    split at h
    · rename_i hw
      subst hw
      split at h
      · rename_i rows e
        unfold rowsOk at h
        split at h
        · rename_i rs
          simp only [Bool.and_eq_true, decide_eq_true_eq] at h
          obtain ⟨ps, rfl⟩ := rows_pairs h.2
          exact .inr (.inr (.inr (.inr (.inr ⟨ps, e, rfl, by simpa using h.1.1, by simpa using h.1.2⟩))))
        · cases h
      · cases h
    · split at h
      · rename_i x
        split at h
        · rename_i hw
          subst hw
          unfold within at h
          split at h
          · rename_i i
            simp only [Bool.and_eq_true, decide_eq_true_eq] at h
            exact .inr (.inr (.inl ⟨i, h.1, h.2, rfl⟩))
          · cases h
        split at h
        · rename_i hw
          subst hw
          exact .inr (.inr (.inr (.inl ⟨x, rfl⟩)))
        split at h
        · rename_i hw
          split at h
          · rename_i es
            simp only [Bool.and_eq_true, decide_eq_true_eq] at h
            rcases hw with rfl | rfl
            · exact .inr (.inr (.inr (.inr (.inl ⟨true, es, rfl, h.1, h.2⟩))))
            · exact .inr (.inr (.inr (.inr (.inl ⟨false, es, rfl, h.1, h.2⟩))))
          · cases h
        · cases h
      · cases h
  · cases h
@[simp] theorem inner_yes : inner (.tup [.str "yes"]) = [] := by simp [inner]
@[simp] theorem inner_no : inner (.tup [.str "no"]) = [] := by simp [inner]
@[simp] theorem inner_wish {e : D} : inner (.tup [.str "wish", e]) = [] := by simp [inner]
@[simp] theorem inner_not {e : D} : inner (.tup [.str "not", e]) = [e] := by simp [inner]
@[simp] theorem inner_and {es : List D} : inner (.tup [.str "and", .tup es]) = es := by simp [inner]
@[simp] theorem inner_or {es : List D} : inner (.tup [.str "or", .tup es]) = es := by simp [inner]
@[simp] theorem inner_cases {ps : List (D × D)} {e : D} : inner (.tup [.str "cases", .tup (ps.map fun p => .tup [p.1, p.2]), e]) = (ps.flatMap fun p => [p.1, p.2]) ++ [e] := by
  simp [inner, List.flatMap_map, pairOf]
theorem Dat.pair {n : Nat} {a b : D} (h : Dat n (.tup [a, b])) : Dat n a ∧ Dat n b := ⟨h.of_tup a (by simp), h.of_tup b (by simp)⟩
theorem inner_dat {n : Nat} {many : Int} {d : D} (h : Dat n d) (hf : formOk many d = true) : ∀ e ∈ inner d, Dat n e := by
  rcases form_cases hf with rfl | rfl | ⟨k, _, _, rfl⟩ | ⟨e, rfl⟩ | ⟨w, es, rfl, _⟩ | ⟨ps, e, rfl, _⟩
  · intro e he; rw [inner_yes] at he; cases he
  · intro e he; rw [inner_no] at he; cases he
  · intro e he; rw [inner_wish] at he; cases he
  · intro e' he
    rw [inner_not, List.mem_singleton] at he
    subst he
    exact h.of_tup _ (by simp)
  · have h2 : Dat n (.tup es) := h.of_tup _ (by simp)
    cases w
    · intro e he
      simp only [Bool.false_eq_true, if_false, inner_or] at he
      exact h2.of_tup e he
    · intro e he
      simp only [if_true, inner_and] at he
      exact h2.of_tup e he
  · have h2 := h.of_tup (.tup (ps.map fun p => .tup [p.1, p.2])) (by simp)
    intro e' he
    rw [inner_cases] at he
    rcases List.mem_append.mp he with he | he
    · obtain ⟨p, hp, hq⟩ := List.mem_flatMap.mp he
      have h3 := (h2.of_tup (.tup [p.1, p.2]) (List.mem_map.mpr ⟨p, hp, rfl⟩)).pair
      simp only [List.mem_cons, List.not_mem_nil, or_false] at hq
      rcases hq with rfl | rfl
      · exact h3.1
      · exact h3.2
    · rw [List.mem_singleton.mp he]
      exact h.of_tup _ (by simp)
theorem inner_len {many : Int} {d : D} (hf : formOk many d = true) : (inner d).length ≤ 9 := by
  rcases form_cases hf with rfl | rfl | ⟨k, _, _, rfl⟩ | ⟨e, rfl⟩ | ⟨w, es, rfl, _, h⟩ | ⟨ps, e, rfl, _, h⟩
  · simp
  · simp
  · simp
  · simp
  · cases w <;> simp <;> omega
  · have : ∀ ps : List (D × D), (ps.flatMap fun p => [p.1, p.2]).length = 2 * ps.length := fun ps => by
      induction ps with
      | nil => rfl
      | cons p ps ih => simp at ih ⊢; omega
    rw [inner_cases, List.length_append, this]
    simp; omega
theorem inner_parts_ok {many : Int} {k : Nat} {d : D} (hd : Dat k d) (hf : formOk many d = true) (A : List O) : m_inner_parts [d] A = .ok (.lst (inner d)) A := by
  have hnr : (inner d).all noR = true := List.all_eq_true.mpr fun e he => (inner_dat hd hf e he).noR
  rcases form_cases hf with rfl | rfl | ⟨k, _, _, rfl⟩ | ⟨e, rfl⟩ | ⟨w, es, rfl, _, h⟩ | ⟨ps, e, rfl, _, h⟩
  · simp [m_inner_parts, b_inner_parts]
  · simp [m_inner_parts, b_inner_parts]
  · simp [m_inner_parts, b_inner_parts]
  · simp [m_inner_parts, b_inner_parts]
  · have hl : es.length < 16777216 := by omega
    cases w
    · simp [m_inner_parts, b_inner_parts, hl]
    · simp [m_inner_parts, b_inner_parts, hl]
  · have LP : ∀ (ps : List (D × D)) (c x y : Option D) (fs : List D), fs.length + 2 * ps.length ≤ 1000 → ∃ x' y', forD (fun _ => True) (tgT 2 (tgsCons (tgN 2) (tgsCons (tgN 3) tgsNil))) (sExpr (mMeth isL fExtend (mVar 1) (mArgs (mA (newL true) (mArgs (mVar 2) (mArgs (mVar 3) mArgs0))) mArgs0))) (ps.map fun p => .tup [p.1, p.2]) [c, some (.ref A.length), x, y] (A ++ [.lst fs]) = .ok (.nx [c, some (.ref A.length), x', y']) (A ++ [.lst (fs ++ ps.flatMap fun p => [p.1, p.2])]) := fun ps => by
      induction ps with
      | nil => intro c x y fs _; exact ⟨x, y, by simp [forD]⟩
      | cons p ps ih =>
        intro c x y fs hl
        simp only [List.length_cons] at hl
        obtain ⟨x', y', e'⟩ := ih c (some p.1) (some p.2) (fs ++ [p.1, p.2]) (by simp; omega)
        refine ⟨x', y', ?_⟩
        have hex := fExtend_e (l := A.length) (A := A ++ [.lst fs]) (ds := fs) (es := [p.1, p.2]) (y := .lst [p.1, p.2]) (by simp) rfl (by simp; omega)
        rw [List.map_cons, forD, if_pos trivial]
        simp [hex, e']
    obtain ⟨x', y', e'⟩ := LP ps (some (.tup [.str "cases", .tup (ps.map fun p => .tup [p.1, p.2]), e])) none none [] (by simp; omega)
    have hl2 : ((ps.flatMap fun p => [p.1, p.2]) ++ [e]).length < 16777216 := by
      have := inner_len hf
      rw [inner_cases] at this
      omega
    rw [inner_cases] at hnr
    simp only [List.nil_append] at e'
    simp only [List.length_append, List.length_cons, List.length_nil, Nat.zero_add] at hl2
    rw [inner_cases]
    revert e' hl2 hnr
    generalize (ps.flatMap fun p => [p.1, p.2]) = fs
    intro hnr e' hl2
    have ht := trimR_app (A := A) (B := [.lst fs]) (d := .lst (fs ++ [e])) (by rw [noR_lst]; exact hnr)
    simp [m_inner_parts, b_inner_parts, e', hl2, ht, -trimR_app]
end Mb
end
section
namespace Mb
open PySem PySem.Spec L2 Vi
def partsD (many : Int) (n : Nat) (d : D) : D := if okF many n d = true ∧ szF n d ≤ 60 then .int (szF n d) else .non
theorem parts_ok {many : Int} {k : Nat} (hk : k ≤ 64) : ∀ (f n : Nat) (room : Int) (d : D) (A : List O), n < f → room = (n : Int) → Dat k d → m_parts_of f [d, .int many, .int room] A = .ok (partsD many n d) A
  | f + 1, 0, room, d, A, _, hr, hd => by
    have h0 : room < 1 := by omega
    rw [show m_parts_of (f + 1) = runB 6 (b_parts_of (m_parts_of f)) from rfl]
    simp [b_parts_of, h0, partsD, okF]
  | f + 1, n + 1, room, d, A, hf, hr, hd => by
    have h0 : ¬ room < 1 := by omega
    rw [show m_parts_of (f + 1) = runB 6 (b_parts_of (m_parts_of f)) from rfl]
    have ef := fun A => is_form_ok (A := A) (many := many) hd hk
    cases hfo : formOk many d with
    | false =>
      rw [hfo] at ef
      simp [b_parts_of, h0, partsD, okF, ef, hfo]
    | true =>
      rw [hfo] at ef
      have ei := inner_parts_ok hd hfo A
      have hin := inner_dat hd hfo
      have LP : ∀ (ds : List D) (g : Nat) (A : List O) (x y : Option D), (∀ e ∈ ds, Dat k e) → g ≤ 60 → ∃ x' y', forD (fun _ => True) (tgN 4) (sSeq (sSet 5 (mCall (m_parts_of f) [] (mArgs (mVar 4) (mArgs (mVar 1) (mArgs (m2 dSub (mVar 2) (mC (.int 1))) mArgs0)))))
  (sSeq (sIf (mOrT (mBl (m2 dIs (mVar 5) (mC .non))) (mBl (m2 dGt (m2 (dAdd true) (mVar 3) (mVar 5)) (mC (.int 60)))))
  (sRet (mC .non))
  sPass)
  (sAug 3 dAddI (mVar 5)))) ds [some d, some (.int many), some (.int room), some (.int g), x, y] A =
          if ds.all (okF many n) = true ∧ g + (ds.map (szF n)).sum ≤ 60 then .ok (.nx [some d, some (.int many), some (.int room), some (.int ((g + (ds.map (szF n)).sum : Nat) : Int))  , x', y']) A else .ok (.rt .non) A := fun ds => by
        induction ds with
        | nil => intro g A x y _ hg; exact ⟨x, y, by simp [forD, hg]⟩
        | cons e ds ih =>
          intro g A x y hds hg
          have ee := parts_ok (many := many) hk f n (room - 1) e A (by omega) (by omega) (hds e (List.mem_cons_self ..))
          by_cases hp : okF many n e = true ∧ szF n e ≤ 60
          · rw [partsD, if_pos hp] at ee
            by_cases hs : g + szF n e ≤ 60
            · obtain ⟨x', y', e2⟩ := ih (g + szF n e) A (some e) (some (.int (szF n e))) (fun e' he => hds e' (List.mem_cons_of_mem _ he)) hs
              refine ⟨x', y', ?_⟩
              have h60 : ¬ (60 : Int) < (g : Int) + szF n e := by omega
              rw [forD, if_pos trivial]
              have e3 : (((g + szF n e : Nat) : Int)) = (g : Int) + szF n e := by omega
              rw [e3] at e2
              simp [ee, h60, e2, hp.1, Nat.add_assoc]
            · refine ⟨x, y, ?_⟩
              have h60 : (60 : Int) < (g : Int) + szF n e := by omega
              have hn : ¬ (((e :: ds).all (okF many n)) = true ∧ g + ((e :: ds).map (szF n)).sum ≤ 60) := by
                rintro ⟨_, h⟩
                simp only [List.map_cons, List.sum_cons] at h
                omega
              rw [if_neg hn, forD, if_pos trivial]
              simp [ee, h60]
          · rw [partsD, if_neg hp] at ee
            refine ⟨x, y, ?_⟩
            have hn : ¬ (((e :: ds).all (okF many n)) = true ∧ g + ((e :: ds).map (szF n)).sum ≤ 60) := by
              rintro ⟨h, h'⟩
              simp only [List.map_cons, List.sum_cons] at h'
              simp only [List.all_cons, Bool.and_eq_true] at h
              exact hp ⟨h.1, by omega⟩
            rw [if_neg hn, forD, if_pos trivial]
            simp [ee]
      obtain ⟨x', y', e⟩ := LP (inner d) 1 A none none hin (by omega)
      have e0 : ((1 : Nat) : Int) = 1 := rfl
      rw [e0] at e
      by_cases hc : (inner d).all (okF many n) = true ∧ 1 + ((inner d).map (szF n)).sum ≤ 60
      · have e1 : partsD many (n + 1) d = .int ((1 + ((inner d).map (szF n)).sum : Nat) : Int) := by
          rw [partsD, if_pos ⟨by rw [okF, hfo, hc.1]; rfl, by rw [szF]; exact hc.2⟩, szF]
        rw [if_pos hc] at e
        rw [e1]
        simp [b_parts_of, h0, ef, ei, e]
      · have e1 : partsD many (n + 1) d = .non := by
          rw [partsD, if_neg]
          rintro ⟨h1, h2⟩
          rw [okF, hfo, Bool.true_and] at h1
          rw [szF] at h2
          exact hc ⟨h1, h2⟩
        rw [if_neg hc] at e
        rw [e1]
        simp [b_parts_of, h0, ef, ei, e]
def isDec (many : Int) (d : D) : Bool := okF many 12 d && decide (szF 12 d ≤ 60)
theorem is_decision_ok {many : Int} {k : Nat} (hk : k ≤ 64) {d : D} (hd : Dat k d) (A : List O) : m_is_decision [d, .int many] A = .ok (.bl (isDec many d)) A := by
  have e := parts_ok (many := many) hk 16 12 12 d A (by decide) rfl hd
  by_cases h : okF many 12 d = true ∧ szF 12 d ≤ 60
  · rw [partsD, if_pos h] at e
    simp [m_is_decision, b_is_decision, e, isDec, h.1, h.2]
  · rw [partsD, if_neg h] at e
    have : isDec many d = false := by
      unfold isDec
      rw [Bool.eq_false_iff]
      intro h2
      simp only [Bool.and_eq_true, decide_eq_true_eq] at h2
      exact h h2
    simp [m_is_decision, b_is_decision, e, this]
end Mb
end
section
namespace Mb
open PySem PySem.Spec L2 Vi
noncomputable def b_is_row : SM :=
  (sRet (mAnd (mA fIsi (mArgs (mVar 0) (mArgs (mC (.ty .tuple)) mArgs0))) (mAnd (m2 dEq (mA fLen (mArgs (mVar 0) mArgs0)) (mVar 1)) (mA fAll (mArgs (mLc true (mSrc (mVar 0)) (tgN 2) mYes (mA fIsi (mArgs (mVar 2) (mArgs (mC (.ty .bool)) mArgs0))) [2]) mArgs0)))))
noncomputable def m_is_row : List D → List O → R D := runB 3 b_is_row
noncomputable def b_all_rows_1 : SM :=
  (sExpr (mMeth isL fExtend (mVar 3) (mArgs (mA (newL true) (mArgs (m2 (dAdd true) (mVar 4) (mA fTup (mArgs (mC (.bl false)) mArgs0))) (mArgs (m2 (dAdd true) (mVar 4) (mA fTup (mArgs (mC (.bl true)) mArgs0))) mArgs0))) mArgs0)))
noncomputable def b_all_rows_2 : SM :=
  (sSeq (sSet 3 (mA (newL false) mArgs0))
  (sSeq (sFor (mSrc (mVar 1)) (tgN 4)
  b_all_rows_1)
  (sSet 1 (mVar 3))))
noncomputable def b_all_rows : SM :=
  (sSeq (sSet 1 (mA (newL true) (mArgs (mA fTup mArgs0) mArgs0)))
  (sSeq (sFor (mSrcA fRange1 (mArgs (mVar 0) mArgs0)) (tgN 2)
  b_all_rows_2)
  (sRet (mVar 1))))
noncomputable def m_all_rows : List D → List O → R D := runB 5 b_all_rows
noncomputable def b_look_at_rows_1 : SM :=
  (sSeq (sIf (mOrT (mNotT (mTru (mCall m_is_row [] (mArgs (mVar 4) (mArgs (mVar 0) mArgs0))))) (mBl (m2 (dInT false) (mVar 4) (mVar 2))))
  (sRaiseX "NoCase" ["part", "place"] (mArgs (mC (.str "rows")) (mArgs (mVar 3) mArgs0)))
  sPass)
  (sAsg (mC (.bl true)) (tgSubT (mVar 2) (mVar 4))))
noncomputable def b_look_at_rows : SM :=
  (sSeq (sIf (mOrT (mNotT (mTru (mA fIsi (mArgs (mVar 1) (mArgs (mC (.ty .list)) mArgs0))))) (mBl (m2 dEq (mVar 1) (mA (newL true) mArgs0))))
  (sRaiseX "NoCase" ["part", "place"] (mArgs (mC (.str "rows")) (mArgs (mC .non) mArgs0)))
  sPass)
  (sSeq (sSet 2 mDict0)
  (sFor (mSrcA fEnum (mArgs (mVar 1) mArgs0)) (tgT 2 (tgsCons (tgN 3) (tgsCons (tgN 4) tgsNil)))
  b_look_at_rows_1)))
noncomputable def m_look_at_rows : List D → List O → R D := runB 5 b_look_at_rows
noncomputable def b_Case_init_1 : SM :=
  (sAsg (mCall (m_answer 34) [] (mArgs (mVar 2) (mArgs (mVar 4) mArgs0))) (tgSubT (m1 (dFld "Case" "case_rows") (mVar 0)) (mVar 4)))
noncomputable def b_Case_init : SM :=
  (sSeq (sIf (mNotT (mTru (mCall m_is_within [] (mArgs (mVar 1) (mArgs (mC (.int 1)) (mArgs (mC (.int 8)) mArgs0))))))
  (sRaiseX "NoCase" ["part", "place"] (mArgs (mC (.str "many")) (mArgs (mC .non) mArgs0)))
  sPass)
  (sSeq (sIf (mNotT (mTru (mCall m_is_decision [] (mArgs (mVar 2) (mArgs (mVar 1) mArgs0)))))
  (sRaiseX "NoCase" ["part", "place"] (mArgs (mC (.str "decision")) (mArgs (mC .non) mArgs0)))
  sPass)
  (sSeq (sIf (mBl (m2 dIsNot (mVar 3) (mC .non)))
  (sExpr (mCall m_look_at_rows [] (mArgs (mVar 1) (mArgs (mVar 3) mArgs0))))
  sPass)
  (sSeq (sFldD "Case" "case_many" (mVar 0) (mVar 1))
  (sSeq (sFldD "Case" "case_decision" (mVar 0) (mVar 2))
  (sSeq (sFldD "Case" "case_rows" (mVar 0) mDict0)
  (sFor (mSrc (mA (fSorted true) (mArgs (mIte (mBl (m2 dIs (mVar 3) (mC .non))) (mCall m_all_rows [] (mArgs (mVar 1) mArgs0)) (mVar 3)) mArgs0))) (tgN 4)
  b_Case_init_1)))))))
noncomputable def m_Case_init : List D → List O → R D := runB 5 b_Case_init
noncomputable def b_Case_many : SM :=
  (sRet (m1 (dFld "Case" "case_many") (mVar 0)))
noncomputable def m_Case_many : List D → List O → R D := runB 1 b_Case_many
noncomputable def b_Case_look_at_row : SM :=
  (sIf (mNotT (mTru (mCall m_is_row [] (mArgs (mVar 1) (mArgs (m1 (dFld "Case" "case_many") (mVar 0)) mArgs0)))))
  (sRaise "NoRow")
  sPass)
noncomputable def m_Case_look_at_row : List D → List O → R D := runB 2 b_Case_look_at_row
noncomputable def b_Case_can_be : SM :=
  (sSeq (sExpr (mMethC "Case" "look_at_row" m_Case_look_at_row [] (mVar 0) (mArgs (mVar 1) mArgs0)))
  (sRet (m2 (dInT false) (mVar 1) (m1 (dFld "Case" "case_rows") (mVar 0)))))
noncomputable def m_Case_can_be : List D → List O → R D := runB 2 b_Case_can_be
end Mb
end
section
namespace Vi
open PySem PySem.Spec L2
theorem forD_pre {α : Type} {ok : List O → Prop} {tg : TgM} {body : SM} {f : α → D} (I : List α → Env → List O → Prop) (hok : ∀ p σ A, I p σ A → ok A) :
    ∀ {xs pre : List α} {σ : Env} {A : List O}, I pre σ A →
    (∀ p x s, pre ++ xs = p ++ x :: s → ∀ σ A, I p σ A → ∃ σ1 A1 σ2 A2, tg (f x) σ A = .ok σ1 A1 ∧ (body σ1 A1 = .ok (.nx σ2) A2 ∨ body σ1 A1 = .ok (.ct σ2) A2) ∧ I (p ++ [x]) σ2 A2) →
    ∃ σ' A', forD ok tg body (xs.map f) σ A = .ok (.nx σ') A' ∧ I (pre ++ xs) σ' A'
  | [], pre, σ, A, hI, _ => ⟨σ, A, by rw [List.map_nil, forD, if_pos (hok _ _ _ hI)], by rw [List.append_nil]; exact hI⟩
  | x :: xs, pre, σ, A, hI, hs => by
    obtain ⟨σ1, A1, σ2, A2, e1, e2, hI2⟩ := hs pre x xs rfl σ A hI
    obtain ⟨σ3, A3, e3, hI3⟩ := forD_pre (xs := xs) (pre := pre ++ [x]) I hok hI2 fun p y s e => hs p y s (by rw [← e]; simp)
    refine ⟨σ3, A3, ?_, by simpa using hI3⟩
    rw [List.map_cons, forD, if_pos (hok _ _ _ hI), e1]
    rcases e2 with e2 | e2 <;> simp only [e2, e3]
theorem forD_p {α : Type} {ok : List O → Prop} {tg : TgM} {body : SM} {f : α → D} {xs : List α} {σ : Env} {A : List O} (I : List α → Env → List O → Prop) (hok : ∀ p σ A, I p σ A → ok A) (h0 : I [] σ A)
    (hs : ∀ p x s, xs = p ++ x :: s → ∀ σ A, I p σ A → ∃ σ1 A1 σ2 A2, tg (f x) σ A = .ok σ1 A1 ∧ (body σ1 A1 = .ok (.nx σ2) A2 ∨ body σ1 A1 = .ok (.ct σ2) A2) ∧ I (p ++ [x]) σ2 A2) :
    ∃ σ' A', forD ok tg body (xs.map f) σ A = .ok (.nx σ') A' ∧ I xs σ' A' := by
  have := forD_pre (xs := xs) (pre := []) I hok h0 (fun p x s e => hs p x s (by simpa using e))
  simpa using this
theorem lcD_f {α : Type} {ok : List O → Prop} {tg : TgM} {mt : M Bool} {me : M D} {σ : Env} {A : List O} {f : α → D} (p : α → Bool) (g : α → D) {xs : List α} (hok : ok A) (hl : xs.length ≤ 16777216)
    (hs : ∀ x ∈ xs, ∃ σ1, tg (f x) σ A = .ok σ1 A ∧ mt σ1 A = .ok (p x) A ∧ (p x = true → me σ1 A = .ok (g x) A)) :
    lcD ok tg mt me σ (xs.map f) [] A = .ok ((xs.filter p).map g) A := by
  have key : ∀ (xs : List α) (acc : List D), acc.length + xs.length ≤ 16777216 → (∀ x ∈ xs, ∃ σ1, tg (f x) σ A = .ok σ1 A ∧ mt σ1 A = .ok (p x) A ∧ (p x = true → me σ1 A = .ok (g x) A)) → lcD ok tg mt me σ (xs.map f) acc A = .ok (acc ++ (xs.filter p).map g) A := by
    intro xs
    induction xs with
    | nil => intro acc _ _; rw [List.map_nil, lcD, if_pos hok]; simp
    | cons x xs ih =>
      intro acc hl hs
      obtain ⟨σ1, e1, e2, e3⟩ := hs x (List.mem_cons_self ..)
      have hl2 : acc.length < sizeLine := by rw [sizeLine_eq]; simp only [List.length_cons] at hl; omega
      rw [List.map_cons, lcD, if_pos ⟨hok, hl2⟩, e1]
      simp only [e2]
      cases hp : p x with
      | true =>
        simp only [e3 hp]
        rw [ih (acc ++ [g x]) (by simp only [List.length_append, List.length_cons, List.length_nil] at hl ⊢; omega) fun y h => hs y (List.mem_cons_of_mem _ h)]
        simp [List.filter, hp]
      | false =>
        simp only
        rw [ih acc (by simp only [List.length_cons] at hl; omega) fun y h => hs y (List.mem_cons_of_mem _ h)]
        simp [List.filter, hp]
  have := key xs [] (by simpa using hl) hs
  simpa using this
theorem lcD_m {α : Type} {ok : List O → Prop} {tg : TgM} {me : M D} {σ : Env} {A : List O} {f : α → D} (g : α → D) {xs : List α} (hok : ok A) (hl : xs.length ≤ 16777216)
    (hs : ∀ x ∈ xs, ∃ σ1, tg (f x) σ A = .ok σ1 A ∧ me σ1 A = .ok (g x) A) : lcD ok tg mYes me σ (xs.map f) [] A = .ok (xs.map g) A := by
  rw [lcD_f (fun _ => true) g hok hl fun x hx => ?_]
  · rw [List.filter_eq_self.mpr (fun _ _ => rfl)]
  · obtain ⟨σ1, e1, e2⟩ := hs x hx
    exact ⟨σ1, e1, rfl, fun _ => e2⟩
structure EqD {α : Type} [DecidableEq α] (k : Nat) (ok : α → Prop) (f : α → D) (g : α → PyData) : Prop where
  py : ∀ a, ok a → ∀ A j, k ≤ j → py A j (f a) = some (g a)
  lay : ∀ a, ok a → (g a).canLay0 = true
  dep : ∀ a, ok a → (g a).depth ≤ k
  eqv : ∀ a b, ok a → ok b → PyData.eqv (g a) (g b) = decide (a = b)
section
variable {α β : Type} [DecidableEq α] [DecidableEq β] {k j : Nat} {ok : α → Prop} {f : α → D} {g : α → PyData} {ok2 : β → Prop} {f2 : β → D} {g2 : β → PyData}
theorem EqD.pys (E : EqD k ok f g) {A : List O} {j : Nat} (hj : k ≤ j) : ∀ {l : List α}, (∀ a ∈ l, ok a) → Vi.pys (Vi.py A j) (l.map f) = some (l.map g)
  | [], _ => rfl
  | a :: l, h => by rw [List.map_cons, Vi.pys, E.py a (h a (List.mem_cons_self ..)) A j hj, E.pys hj fun b hb => h b (List.mem_cons_of_mem _ hb)]; rfl
theorem EqD.lays (E : EqD k ok f g) : ∀ {l : List α}, (∀ a ∈ l, ok a) → PyData.canLayAll0 (l.map g) = true
  | [], _ => rfl
  | a :: l, h => by rw [List.map_cons, PyData.canLayAll0, E.lay a (h a (List.mem_cons_self ..)), E.lays fun b hb => h b (List.mem_cons_of_mem _ hb)]; rfl
theorem EqD.deps (E : EqD k ok f g) : ∀ {l : List α}, (∀ a ∈ l, ok a) → PyData.depthAll (l.map g) ≤ k
  | [], _ => Nat.zero_le _
  | a :: l, h => by
    rw [List.map_cons, PyData.depthAll]
    have h1 := E.dep a (h a (List.mem_cons_self ..))
    have h2 := E.deps (l := l) fun b hb => h b (List.mem_cons_of_mem _ hb)
    omega
theorem EqD.eqvs (E : EqD k ok f g) : ∀ {l m : List α}, (∀ a ∈ l, ok a) → (∀ a ∈ m, ok a) → PyData.eqvAll (l.map g) (m.map g) = decide (l = m)
  | [], [], _, _ => by simp [PyData.eqvAll]
  | [], b :: m, _, _ => by simp [PyData.eqvAll]
  | a :: l, [], _, _ => by simp [PyData.eqvAll]
  | a :: l, b :: m, h1, h2 => by
    rw [List.map_cons, List.map_cons, PyData.eqvAll, E.eqv a b (h1 a (List.mem_cons_self ..)) (h2 b (List.mem_cons_self ..)), E.eqvs (fun c hc => h1 c (List.mem_cons_of_mem _ hc)) fun c hc => h2 c (List.mem_cons_of_mem _ hc)]
    simp
theorem EqD.tup (E : EqD k ok f g) : EqD (k + 1) (fun l : List α => ∀ a ∈ l, ok a) (fun l => .tup (l.map f)) (fun l => .tuple (l.map g)) := by
  refine ⟨fun l h A j hj => ?_, fun l h => by simpa [PyData.canLay0] using E.lays h, fun l h => by simpa [PyData.depth] using E.deps h, fun l m h1 h2 => by simpa [PyData.eqv] using E.eqvs h1 h2⟩
  obtain ⟨i, rfl⟩ : ∃ i, j = i + 1 := ⟨j - 1, by omega⟩
  show (Vi.pys (Vi.py A i) (l.map f)).map _ = _
  rw [E.pys (by omega) h]; rfl
theorem EqD.lst (E : EqD k ok f g) : EqD (k + 1) (fun l : List α => ∀ a ∈ l, ok a) (fun l => .lst (l.map f)) (fun l => .list (l.map g)) := by
  refine ⟨fun l h A j hj => ?_, fun l h => by simpa [PyData.canLay0] using E.lays h, fun l h => by simpa [PyData.depth] using E.deps h, fun l m h1 h2 => by simpa [PyData.eqv] using E.eqvs h1 h2⟩
  obtain ⟨i, rfl⟩ : ∃ i, j = i + 1 := ⟨j - 1, by omega⟩
  show (Vi.pys (Vi.py A i) (l.map f)).map _ = _
  rw [E.pys (by omega) h]; rfl
theorem EqD.pair (E : EqD k ok f g) (E2 : EqD k ok2 f2 g2) : EqD (k + 1) (fun p : α × β => ok p.1 ∧ ok2 p.2) (fun p => .tup [f p.1, f2 p.2]) (fun p => .tuple [g p.1, g2 p.2]) := by
  refine ⟨fun p h A j hj => ?_, fun p h => by simp [PyData.canLay0, PyData.canLayAll0, E.lay _ h.1, E2.lay _ h.2], fun p h => ?_, fun p q h1 h2 => ?_⟩
  · obtain ⟨i, rfl⟩ : ∃ i, j = i + 1 := ⟨j - 1, by omega⟩
    show (Vi.pys (Vi.py A i) [f p.1, f2 p.2]).map _ = _
    rw [Vi.pys, E.py _ h.1 A i (by omega), Vi.pys, E2.py _ h.2 A i (by omega)]; rfl
  · have h1 := E.dep _ h.1
    have h2 := E2.dep _ h.2
    simp only [PyData.depth, PyData.depthAll]
    omega
  · simp only [PyData.eqv, PyData.eqvAll, E.eqv _ _ h1.1 h2.1, E2.eqv _ _ h1.2 h2.2, Bool.and_true]
    cases p; cases q; simp
theorem EqD.shp (E : EqD k ok f g) (hk : k ≤ 64) {a : α} (ha : ok a) : SeqAt.shaped (g a) = true := by
  unfold SeqAt.shaped
  rw [E.lay a ha, decide_eq_true (Nat.le_trans (E.dep a ha) hk)]; rfl
theorem EqD.eqD (E : EqD k ok f g) (hk : k ≤ 64) {a b : α} (ha : ok a) (hb : ok b) (A : List O) : dEqD (f a) (f b) A = .ok (.bl (decide (a = b))) A := by
  unfold dEqD
  rw [E.py a ha A 64 hk, E.py b hb A 64 hk]
  simp only [E.shp hk ha, E.shp hk hb, Bool.and_self, if_true, E.eqv a b ha hb]
theorem EqD.neD (E : EqD k ok f g) (hk : k ≤ 64) {a b : α} (ha : ok a) (hb : ok b) (A : List O) : dNeD (f a) (f b) A = .ok (.bl (!decide (a = b))) A := by
  unfold dNeD
  rw [E.py a ha A 64 hk, E.py b hb A 64 hk]
  simp only [E.shp hk ha, E.shp hk hb, Bool.and_self, if_true, E.eqv a b ha hb]
end
theorem eqD_bl : EqD 0 (fun _ : Bool => True) D.bl PyData.bool := ⟨fun a _ A j _ => by cases j <;> rfl, fun _ _ => rfl, fun _ _ => Nat.zero_le _, fun a b _ _ => by simp only [PyData.eqv]; cases a <;> cases b <;> rfl⟩
theorem eqD_int : EqD 0 (fun _ : Int => True) D.int PyData.int := ⟨fun a _ A j _ => by cases j <;> rfl, fun _ _ => rfl, fun _ _ => Nat.zero_le _, fun a b _ _ => by
  simp only [PyData.eqv]
  by_cases h : a = b
  · subst h; simp
  · simp [h]⟩
theorem dEq_l {x y : D} {A : List O} {r : R D} (h : dEqD x y A = r) (hx : ∀ s, x ≠ .str s) : dEq x y A = r := by
  unfold dEq
  split
  · exact absurd rfl (hx _)
  · exact h
theorem dNe_l {x y : D} {A : List O} {r : R D} (h : dNeD x y A = r) (hx : ∀ s, x ≠ .str s) : dNe x y A = r := by
  unfold dNe
  split
  · exact absurd rfl (hx _)
  · exact h
theorem dIn_tl {neg : Bool} {ds es : List D} {A : List O} : dIn neg (.tup ds) (.lst es) A = .no := by
  unfold dIn
  simp [flatD]
end Vi
namespace Mb
open PySem PySem.Spec L2 Vi
theorem eqD_row : EqD 1 (fun _ : List Bool => True) rowD (fun r => .tuple (r.map PyData.bool)) := by
  have h := eqD_bl.tup
  exact ⟨fun a _ => h.py a fun _ _ => trivial, fun a _ => h.lay a fun _ _ => trivial, fun a _ => h.dep a fun _ _ => trivial, fun a b _ _ => h.eqv a b (fun _ _ => trivial) fun _ _ => trivial⟩
def pairD (p : List Bool × List Bool) : D := .tup [rowD p.1, rowD p.2]
section
variable {A : List O} {r s : List Bool} {rs : List (List Bool)} {p q : List Bool × List Bool} {ps qs : List (List Bool × List Bool)} {neg : Bool}
theorem rows_eq {ss : List (List Bool)} : dEq (.lst (rs.map rowD)) (.lst (ss.map rowD)) A = .ok (.bl (decide (rs = ss))) A := dEq_l (eqD_row.lst.eqD (by decide) (fun _ _ => trivial) (fun _ _ => trivial) A) fun _ h => nomatch h
theorem rows_nil : dEq (.lst (rs.map rowD)) (.lst []) A = .ok (.bl rs.isEmpty) A := by
  have := rows_eq (rs := rs) (ss := []) (A := A)
  rw [List.map_nil] at this
  rw [this]
  cases rs <;> rfl
@[simp] theorem noR_row : noR (rowD r) = true := by simp [rowD]
@[simp] theorem noR_pair : noR (pairD p) = true := by simp [pairD]
end
end Mb
end
section
namespace Vi
open PySem PySem.Spec L2
section
variable {A : List O} {b : Bool} {i : Int} {s : Str} {ds : List D}
@[simp] theorem isi_n_int : fIsi [.non, .ty .int] A = .ok (.bl false) A := rfl
@[simp] theorem isi_n_bool : fIsi [.non, .ty .bool] A = .ok (.bl false) A := rfl
@[simp] theorem isi_n_str : fIsi [.non, .ty .str] A = .ok (.bl false) A := rfl
@[simp] theorem isi_n_list : fIsi [.non, .ty .list] A = .ok (.bl false) A := rfl
@[simp] theorem isi_n_tuple : fIsi [.non, .ty .tuple] A = .ok (.bl false) A := rfl
@[simp] theorem isi_n_dict : fIsi [.non, .ty .dict] A = .ok (.bl false) A := rfl
@[simp] theorem isi_b_int : fIsi [.bl b, .ty .int] A = .ok (.bl true) A := rfl
@[simp] theorem isi_b_bool : fIsi [.bl b, .ty .bool] A = .ok (.bl true) A := rfl
@[simp] theorem isi_b_str : fIsi [.bl b, .ty .str] A = .ok (.bl false) A := rfl
@[simp] theorem isi_b_list : fIsi [.bl b, .ty .list] A = .ok (.bl false) A := rfl
@[simp] theorem isi_b_tuple : fIsi [.bl b, .ty .tuple] A = .ok (.bl false) A := rfl
@[simp] theorem isi_b_dict : fIsi [.bl b, .ty .dict] A = .ok (.bl false) A := rfl
@[simp] theorem isi_i_int : fIsi [.int i, .ty .int] A = .ok (.bl true) A := rfl
@[simp] theorem isi_i_bool : fIsi [.int i, .ty .bool] A = .ok (.bl false) A := rfl
@[simp] theorem isi_i_str : fIsi [.int i, .ty .str] A = .ok (.bl false) A := rfl
@[simp] theorem isi_i_list : fIsi [.int i, .ty .list] A = .ok (.bl false) A := rfl
@[simp] theorem isi_i_tuple : fIsi [.int i, .ty .tuple] A = .ok (.bl false) A := rfl
@[simp] theorem isi_i_dict : fIsi [.int i, .ty .dict] A = .ok (.bl false) A := rfl
@[simp] theorem isi_s_int : fIsi [.str s, .ty .int] A = .ok (.bl false) A := rfl
@[simp] theorem isi_s_bool : fIsi [.str s, .ty .bool] A = .ok (.bl false) A := rfl
@[simp] theorem isi_s_str : fIsi [.str s, .ty .str] A = .ok (.bl true) A := rfl
@[simp] theorem isi_s_list : fIsi [.str s, .ty .list] A = .ok (.bl false) A := rfl
@[simp] theorem isi_s_tuple : fIsi [.str s, .ty .tuple] A = .ok (.bl false) A := rfl
@[simp] theorem isi_s_dict : fIsi [.str s, .ty .dict] A = .ok (.bl false) A := rfl
@[simp] theorem isi_t_int : fIsi [.tup ds, .ty .int] A = .ok (.bl false) A := rfl
@[simp] theorem isi_t_bool : fIsi [.tup ds, .ty .bool] A = .ok (.bl false) A := rfl
@[simp] theorem isi_t_str : fIsi [.tup ds, .ty .str] A = .ok (.bl false) A := rfl
@[simp] theorem isi_t_list : fIsi [.tup ds, .ty .list] A = .ok (.bl false) A := rfl
@[simp] theorem isi_t_tuple : fIsi [.tup ds, .ty .tuple] A = .ok (.bl true) A := rfl
@[simp] theorem isi_t_dict : fIsi [.tup ds, .ty .dict] A = .ok (.bl false) A := rfl
@[simp] theorem isi_l_int : fIsi [.lst ds, .ty .int] A = .ok (.bl false) A := rfl
@[simp] theorem isi_l_bool : fIsi [.lst ds, .ty .bool] A = .ok (.bl false) A := rfl
@[simp] theorem isi_l_str : fIsi [.lst ds, .ty .str] A = .ok (.bl false) A := rfl
@[simp] theorem isi_l_list : fIsi [.lst ds, .ty .list] A = .ok (.bl true) A := rfl
@[simp] theorem isi_l_tuple : fIsi [.lst ds, .ty .tuple] A = .ok (.bl false) A := rfl
@[simp] theorem isi_l_dict : fIsi [.lst ds, .ty .dict] A = .ok (.bl false) A := rfl
theorem fAll_c {α : Type} {l : List α} {p : α → Bool} : fAll [.lst (l.map fun x => .bl (p x))] A = .ok (.bl (l.all p)) A := by
  have : (l.map fun x => D.bl (p x)) = (l.map p).map D.bl := by simp
  rw [this, fAll_e]
  simp [List.all_map]
theorem enumD_map {α : Type} {f : α → D} : ∀ {l : List α} {k : Nat}, enumD k (l.map f) = (l.zipIdx k).map fun p => .tup [.int (p.2 : Nat), f p.1]
  | [], _ => rfl
  | x :: l, k => by rw [List.map_cons, enumD, enumD_map, List.zipIdx_cons, List.map_cons]
end
end Vi
namespace Mb
open PySem PySem.Spec L2 Vi
@[simp] theorem rowOf_row {r : List Bool} : Vi.rowOf (rowD r) = some r := by
  show bools (r.map D.bl) = some r
  exact bools_map r
@[simp] theorem keyK_row {r : List Bool} : keyK (rowD r) = none := rfl
theorem rowsOfD_map : ∀ {rs : List (List Bool)}, rowsOfD (rs.map rowD) = some rs
  | [] => rfl
  | r :: rs => by rw [List.map_cons, rowsOfD, rowOf_row, rowsOfD_map]; rfl
theorem is_row_ok {r : List Bool} {m : Nat} (hm : r.length ≤ 1000) {A : List O} : m_is_row [rowD r, .int m] A = .ok (.bl (decide (r.length = m))) A := by
  have e1 : lcD (fun _ => True) (tgN 2) mYes (mA fIsi (mArgs (mVar 2) (mArgs (mC (.ty .bool)) mArgs0))) [some (rowD r), some (.int (m : Int)), none] (r.map D.bl) [] A = .ok (r.map fun _ => .bl true) A :=
    lcD_m (fun _ => .bl true) trivial (by omega) fun b _ => ⟨_, tgN_e, by simp⟩
  have e2 := fAll_c (A := A) (l := r) (p := fun _ => true)
  have e3 : ((r.length : Int) == (m : Int)) = decide (r.length = m) := by
    by_cases h : r.length = m
    · simp [h]
    · simp [h]; omega
  have hl : r.length < 16777216 := by omega
  unfold rowD at e1 ⊢
  by_cases h : r.length = m
  · have hl2 : m < 16777216 := by omega
    simp [m_is_row, b_is_row, wipeD, e1, e2, hl2, h]
  · simp [m_is_row, b_is_row, wipeD, e3, h]
def wat (r : List Bool) (w : Nat) : Bool := r.getD w false
def tn (r : List Bool) (w : Nat) : List Bool := r.set w (!wat r w)
@[simp] theorem tn_len {r : List Bool} {w : Nat} : (tn r w).length = r.length := by simp [tn]
theorem dAdd_rr2 {r s : List Bool} (h : r.length + s.length ≤ 16777216) {A : List O} : dAdd true (rowD r) (rowD s) A = .ok (rowD (r ++ s)) A := by
  unfold rowD
  rw [dAdd_tt (by simpa using h), ← List.map_append]
theorem Dec.dat {m : Nat} : ∀ {n s : Nat} {d : D}, Dec m n s d → Dat (3 * n) d
  | n + 1, s, d, h => by
    have e3 : 3 * (n + 1) = 3 * n + 1 + 1 + 1 := by omega
    have hs : ∀ {k : Nat} {s : Str}, PyData.strOk s = true → Dat k (.str s) := fun h => Dat.str h
    rcases h with ⟨h, h2 | h2 | ⟨k, hk, h2⟩⟩ | ⟨e, t, h1, h2, h3⟩ | ⟨w, es, t, h1, h2, h3, h4, h5⟩ | ⟨ps, e, t, h1, h2, h3, h4, h5, h6⟩
    · subst h2
      exact (Dat.tup (n := 0) fun e he => by rw [List.mem_singleton.mp he]; exact hs so_0).mono (by omega)
    · subst h2
      exact (Dat.tup (n := 0) fun e he => by rw [List.mem_singleton.mp he]; exact hs so_1).mono (by omega)
    · subst h2
      refine (Dat.tup (n := 0) fun e he => ?_).mono (by omega)
      simp only [List.mem_cons, List.not_mem_nil, or_false] at he
      rcases he with rfl | rfl
      · exact hs so_2
      · exact Dat.int
    · subst h1
      refine (Dat.tup (n := 3 * n) fun x he => ?_).mono (by omega)
      simp only [List.mem_cons, List.not_mem_nil, or_false] at he
      rcases he with rfl | rfl
      · exact hs so_3
      · exact h2.dat
    · subst h1
      refine (Dat.tup (n := 3 * n + 1) fun x he => ?_).mono (by omega)
      simp only [List.mem_cons, List.not_mem_nil, or_false] at he
      rcases he with rfl | rfl
      · cases w
        · exact hs so_5
        · exact hs so_4
      · exact Dat.tup fun x hx => (h4 x hx).dat
    · subst h1
      refine (Dat.tup (n := 3 * n + 2) fun x he => ?_).mono (by omega)
      simp only [List.mem_cons, List.not_mem_nil, or_false] at he
      rcases he with rfl | rfl | rfl
      · exact hs so_6
      · refine Dat.tup (n := 3 * n + 1) fun x hx => ?_
        obtain ⟨p, hp, rfl⟩ := List.mem_map.mp hx
        refine Dat.tup fun y hy => ?_
        simp only [List.mem_cons, List.not_mem_nil, or_false] at hy
        rcases hy with rfl | rfl
        · exact (h4 p hp).1.dat
        · exact (h4 p hp).2.dat
      · exact h5.dat.mono (by omega)
theorem Dec.okF {m : Nat} : ∀ {n s : Nat} {d : D}, Dec m n s d → ∀ k, n ≤ k → okF m k d = true ∧ szF k d ≤ s
  | n + 1, s, d, h, k, hk => by
    obtain ⟨k, rfl⟩ : ∃ j, k = j + 1 := ⟨k - 1, by omega⟩
    have hk' : n ≤ k := by omega
    rw [Mb.okF, szF]
    rcases h with ⟨h, h2 | h2 | ⟨j, hj, h2⟩⟩ | ⟨e, t, h1, h2, h3⟩ | ⟨w, es, t, h1, h2, h3, h4, h5⟩ | ⟨ps, e, t, h1, h2, h3, h4, h5, h6⟩
    · subst h2; simp [formOk]; omega
    · subst h2; simp [formOk]; omega
    · subst h2; simp [formOk, within]; omega
    · subst h1
      obtain ⟨i1, i2⟩ := h2.okF k hk'
      simp [formOk, i1]; omega
    · subst h1
      have i1 : es.all (Mb.okF m k) = true := List.all_eq_true.mpr fun e he => ((h4 e he).okF k hk').1
      have i2 : (es.map (szF k)).sum ≤ es.length * t := by
        have : ∀ l : List D, (∀ e ∈ l, szF k e ≤ t) → (l.map (szF k)).sum ≤ l.length * t := by
          intro l
          induction l with
          | nil => intro _; simp
          | cons a l ih =>
            intro h
            have h1 := h a (List.mem_cons_self ..)
            have h2 := ih fun e he => h e (List.mem_cons_of_mem _ he)
            rw [List.map_cons, List.sum_cons, List.length_cons, Nat.succ_mul]; omega
        exact this es fun e he => ((h4 e he).okF k hk').2
      have hpos : 1 ≤ es.length := List.length_pos_iff.mpr h2
      cases w
      · simp only [Bool.false_eq_true, if_false, inner_or, i1, Bool.and_true]
        refine ⟨by simp [formOk, hpos, h3], by omega⟩
      · simp only [if_true, inner_and, i1, Bool.and_true]
        refine ⟨by simp [formOk, hpos, h3], by omega⟩
    · subst h1
      have hpos : 1 ≤ ps.length := List.length_pos_iff.mpr h2
      obtain ⟨j1, j2⟩ := h5.okF k hk'
      rw [inner_cases]
      have i1 : ∀ e ∈ ps.flatMap fun p => [p.1, p.2], Mb.okF m k e = true ∧ szF k e ≤ t := fun e he => by
        obtain ⟨p, hp, hq⟩ := List.mem_flatMap.mp he
        simp only [List.mem_cons, List.not_mem_nil, or_false] at hq
        rcases hq with rfl | rfl
        · exact (h4 p hp).1.okF k hk'
        · exact (h4 p hp).2.okF k hk'
      have i2 : ((ps.flatMap fun p => [p.1, p.2]).map (szF k)).sum ≤ 2 * ps.length * t := by
        have : ∀ l : List (D × D), (∀ e ∈ l.flatMap fun p => [p.1, p.2], szF k e ≤ t) → ((l.flatMap fun p => [p.1, p.2]).map (szF k)).sum ≤ 2 * l.length * t := by
          intro l
          induction l with
          | nil => intro _; simp
          | cons a l ih =>
            intro h
            have h1 := h a.1 (by simp)
            have h1' := h a.2 (by simp)
            have h2 := ih fun e he => h e (by rw [List.flatMap_cons]; exact List.mem_append_right _ he)
            have e : 2 * (l.length + 1) * t = 2 * l.length * t + t + t := by rw [Nat.mul_add, Nat.add_mul, Nat.mul_one, Nat.two_mul]; omega
            rw [List.flatMap_cons, List.map_append, List.sum_append, List.length_cons, e]
            simp only [List.map_cons, List.map_nil, List.sum_cons, List.sum_nil]
            omega
        exact this ps fun e he => (i1 e he).2
      have e2 : (2 * ps.length + 1) * t = 2 * ps.length * t + t := by rw [Nat.add_mul, Nat.one_mul]
      refine ⟨?_, ?_⟩
      · rw [Bool.and_eq_true]
        refine ⟨by simp [formOk, rowsOk, isPair, hpos, h3], List.all_eq_true.mpr fun e he => ?_⟩
        rcases List.mem_append.mp he with he | he
        · exact (i1 e he).1
        · rw [List.mem_singleton.mp he]; exact j1
      · rw [List.map_append, List.sum_append]
        simp only [List.map_cons, List.map_nil, List.sum_cons, List.sum_nil]
        omega
theorem Dec.isDec {m n s : Nat} {d : D} (h : Dec m n s d) (hn : n ≤ 12) (hs : s ≤ 60) : isDec m d = true := by
  obtain ⟨h1, h2⟩ := h.okF 12 hn
  unfold Mb.isDec
  rw [h1, Bool.true_and, decide_eq_true_eq]; omega
end Mb
end
section
namespace Vi
open PySem PySem.Spec L2
section
variable {A : List O} {C : String} {f : Str} {n : Nat} {d x : D} {ns : List Str} {ds : List D} {σ : Env} {mo mv : M D} {mr : M (List D)} {m : List D → List O → R D} {dds : List D} {fz : Bool}
@[simp ↓] theorem sFldD_e : sFldD C f mo mv σ A = withE (fun σ A => (mv σ A).bind fun y A => (mo σ A).bind fun x A => match setFld C f x y A with
  | some A' => R.ok D.non A'
  | none => R.no) (fun σ _ A => .ok (.nx σ) A) σ A := rfl
@[simp ↓] theorem mDict0_e : mDict0 σ A = .ok (.ref A.length) (A ++ [.dct [] []]) := rfl
@[simp ↓] theorem mMethC_e {nm : Str} : mMethC C nm m dds mo mr σ A = (mo σ A).bind fun x A => match insOf x A with
  | some (c, ns, _) => if c = C ∧ fIx ns nm = none then (mr σ A).bind fun xs A => m (x :: (xs ++ dds)) A else .no
  | none => .no := rfl
@[simp] theorem insOf_obj : insOf (.obj C ns ds) A = some (C, ns, ds) := rfl
theorem setFld_new (h : A[n]? = some (.ins C ns ds)) (hl : ns.length < 1000) (hf : fIx ns f = none) : setFld C f (.ref n) d A = some (A.set n (.ins C (ns ++ [f]) (ds ++ [d]))) := by
  unfold setFld
  simp only [h]
  simp only [hl, and_self, if_true, hf]
theorem dFld_obj {i : Nat} (hf : fIx ns f = some i) (hd : ds[i]? = some d) : dFld C f (.obj C ns ds) A = .ok d A := by
  unfold dFld
  simp only [insOf_obj, hf, Option.bind_some, hd, if_true]
theorem dFld_ref {i : Nat} (h : A[n]? = some (.ins C ns ds)) (hf : fIx ns f = some i) (hd : ds[i]? = some d) : dFld C f (.ref n) A = .ok d A := by
  unfold dFld insOf
  simp only [h, hf, Option.bind_some, hd, if_true]
theorem frz1_no (h : noR d = true) : frz1 d A = (d, A) := by
  cases d with
  | ref n => simp at h
  | _ => rfl
theorem trimR_keep {d : D} {A' : List O} (h : ¬ TrimC A d A') : trimR A (.ok d A') = .ok d A' := by
  unfold trimR
  exact if_neg h
theorem dInT_b {neg : Bool} {ks : List (List Bool)} {r : List Bool} (hr : rowOf x = some r) (h : A[n]? = some (.dtb ks ds)) : dInT neg x (.ref n) A = .ok (.bl (if neg then !(kIx ks r).isSome else (kIx ks r).isSome)) A := by
  unfold dInT
  simp only [h, hr]
theorem dInT_0 {neg : Bool} {r : List Bool} (hk : keyK x = none) (hr : rowOf x = some r) (h : A[n]? = some (.dct [] ds)) : dInT neg x (.ref n) A = .ok (.bl neg) (A.set n (.dtb [] [])) := by
  unfold dInT
  simp only [h, hk, hr]
theorem setIxT_new {ks : List (List Bool)} {r : List Bool} (hr : rowOf x = some r) (h : A[n]? = some (.dtb ks ds)) (hl : ks.length < 16777216) (hn : kIx ks r = none) : setIxT (.ref n) x d A = some (A.set n (.dtb (ks ++ [r]) (ds ++ [d]))) := by
  unfold setIxT
  simp only [h]
  rw [sizeLine_eq, if_pos hl]
  simp only [hr, hn]
theorem setIxT_0 {r : List Bool} (hk : keyK x = none) (hr : rowOf x = some r) (h : A[n]? = some (.dct [] ds)) : setIxT (.ref n) x d A = some (A.set n (.dtb [r] [d])) := by
  unfold setIxT
  simp only [h]
  rw [sizeLine_eq, if_pos (by decide)]
  simp only [hk, hr]
end
end Vi
namespace Mb
open PySem PySem.Spec L2 Vi
noncomputable def ansB (d : D) (r : List Bool) : Bool := match m_answer 34 [d, rowD r] [] with
  | .ok (.bl b) _ => b
  | _ => false
theorem ans_eq {m n s : Nat} {d : D} {r : List Bool} (hm : m ≤ 10) (hr : r.length = m) (hn : n ≤ 16) (h : Dec m n s d) (A : List O) : m_answer 34 [d, rowD r] A = .ok (.bl (ansB d r)) A ∧ m_law_answer 16 [d, rowD r] A = .ok (.bl (ansB d r)) A := by
  obtain ⟨b, a1, a2⟩ := ans_ok hm hr (by omega) h
  have : ansB d r = b := by
    unfold ansB
    rw [a1 34 [] (by omega)]
  rw [this]
  exact ⟨a1 34 A (by omega), a2 16 A hn⟩
def tblO (f : List Bool → D) (p : List (List Bool)) : O := if p = [] then .dct [] [] else .dtb p (p.map f)
theorem kIx_mem {rs p s : List (List Bool)} {r : List Bool} (hn : rs.Nodup) (e : rs = p ++ r :: s) : kIx p r = none := by
  rw [kIx_none]
  subst e
  intro h
  exact (List.nodup_append.mp hn).2.2 r h r (List.mem_cons_self ..) rfl
theorem look_at_rows_ok {m : Nat} {rs : List (List Bool)} (hm : m ≤ 1000) (hl : ∀ r ∈ rs, r.length = m) (hn : rs.Nodup) (h0 : rs ≠ []) (hz : rs.length ≤ 1000) (A : List O) : m_look_at_rows [.int m, .lst (rs.map rowD)] A = .ok .non A := by
  have e1 : dEq (.lst (rs.map rowD)) (.lst []) A = .ok (.bl false) A := by
    rw [rows_nil]; cases rs <;> simp_all
  have e2 : ∀ A, fEnum [.lst (rs.map rowD)] A = .ok (.fix ((rs.zipIdx 0).map fun p => .tup [.int (p.2 : Nat), rowD p.1])) A := fun A => by
    show R.ok (Src.fix (enumD 0 (rs.map rowD))) A = _
    rw [enumD_map]
  obtain ⟨σ', A', e3, x, y, rfl, rfl⟩ := forD_p (ok := fun _ => True) (tg := tgT 2 (tgsCons (tgN 3) (tgsCons (tgN 4) tgsNil))) (body := b_look_at_rows_1) (f := fun p : List Bool × Nat => .tup [.int (p.2 : Nat), rowD p.1]) (xs := rs.zipIdx 0)
    (σ := [some (.int m), some (.lst (rs.map rowD)), some (.ref A.length), none, none]) (A := A ++ [.dct [] []])
    (fun p σ A' => ∃ x y : Option D, σ = [some (.int m), some (.lst (rs.map rowD)), some (.ref A.length), x, y] ∧ A' = A ++ [tblO (fun _ => .bl true) (p.map (·.1))]) (fun _ _ _ _ => trivial) ⟨none, none, rfl, by simp [tblO]⟩
    fun p x s e σ A' ⟨u, v, hσ, hA⟩ => by
      subst hσ hA
      obtain ⟨r, i⟩ := x
      have e4 : rs = p.map (·.1) ++ r :: s.map (·.1) := by
        have := congrArg (List.map (·.1)) e
        rw [List.map_append, List.map_cons, List.zipIdx_map_fst] at this
        exact this
      have hr : r ∈ rs := by rw [e4]; simp
      have f1 := fun A => is_row_ok (A := A) (r := r) (m := m) (by rw [hl r hr]; exact hm)
      have hk := kIx_mem hn e4
      have hpl : (p.map (·.1)).length < 16777216 := by
        have : rs.length = (p.map (·.1)).length + (s.length + 1) := by rw [e4]; simp
        omega
      have hlm := hl r hr
      refine ⟨[some (.int m), some (.lst (rs.map rowD)), some (.ref A.length), some (.int (i : Nat)), some (rowD r)], A ++ [tblO (fun _ => .bl true) (p.map (·.1))], [some (.int m), some (.lst (rs.map rowD)), some (.ref A.length), some (.int (i : Nat)), some (rowD r)], A ++ [tblO (fun _ => .bl true) ((p ++ [(r, i)]).map (·.1))], tgT_e.trans (by simp), .inl ?_, some (.int (i : Nat)), some (rowD r), rfl, rfl⟩
      by_cases hp : p = []
      · subst hp
        have f2 : dInT false (rowD r) (.ref A.length) (A ++ [.dct [] []]) = .ok (.bl false) (A ++ [.dtb [] []]) := by
          rw [dInT_0 keyK_row rowOf_row (ds := []) (by simp)]; simp
        have f3 : setIxT (.ref A.length) (rowD r) (.bl true) (A ++ [.dtb [] []]) = some (A ++ [.dtb [r] [.bl true]]) := by
          rw [setIxT_new rowOf_row (ks := []) (ds := []) (by simp) (by simp) rfl]; simp
        simp [b_look_at_rows_1, tblO, f1, hlm, f2, f3]
      · have hq : p.map (·.1) ≠ [] := by simpa using hp
        have f2 : dInT false (rowD r) (.ref A.length) (A ++ [.dtb (p.map (·.1)) ((p.map (·.1)).map fun _ => .bl true)]) = .ok (.bl false) (A ++ [.dtb (p.map (·.1)) ((p.map (·.1)).map fun _ => .bl true)]) := by
          rw [dInT_b rowOf_row (ks := p.map (·.1)) (ds := (p.map (·.1)).map fun _ => .bl true) (by simp), hk]; rfl
        have f3 : setIxT (.ref A.length) (rowD r) (.bl true) (A ++ [.dtb (p.map (·.1)) ((p.map (·.1)).map fun _ => .bl true)]) = some (A ++ [.dtb (p.map (·.1) ++ [r]) ((p.map (·.1)).map (fun _ => .bl true) ++ [.bl true])]) := by
          rw [setIxT_new rowOf_row (ks := p.map (·.1)) (ds := (p.map (·.1)).map fun _ => .bl true) (by simp) hpl hk]; simp
        have t1 : tblO (fun _ => .bl true) (p.map (·.1)) = .dtb (p.map (·.1)) ((p.map (·.1)).map fun _ => .bl true) := if_neg hq
        have t2 : tblO (fun _ => .bl true) ((p ++ [(r, i)]).map (·.1)) = .dtb (p.map (·.1) ++ [r]) ((p.map (·.1)).map (fun _ => .bl true) ++ [.bl true]) := by
          rw [tblO, if_neg (by simp), List.map_append, List.map_append]; rfl
        rw [t1, t2]
        generalize p.map (·.1) = q at *
        simp [b_look_at_rows_1, f1, hlm, f2, f3]
  have hz2 : rs.length < 16777216 := by omega
  simp [m_look_at_rows, b_look_at_rows, e1, e2, e3]
end Mb
end
section
namespace Vi
open PySem PySem.Spec L2
end Vi
namespace Mb
open PySem PySem.Spec L2 Vi
section
variable {A : List O}
theorem sortR_mem {rs : List (List Bool)} {r : List Bool} : r ∈ sortR rs ↔ r ∈ rs := (sortR_perm rs).mem_iff
theorem sortR_nodup {rs : List (List Bool)} (h : rs.Nodup) : (sortR rs).Nodup := (sortR_perm rs).nodup_iff.mpr h
theorem sortR_len {rs : List (List Bool)} : (sortR rs).length = rs.length := (sortR_perm rs).length_eq
theorem intsOf_rows {r : List Bool} {rs : List (List Bool)} : intsOf ((r :: rs).map rowD) = none := rfl
theorem sorted_rows_ok {m : Nat} {rs : List (List Bool)} (h0 : 1 ≤ m) (hl : ∀ r ∈ rs, r.length = m) (hz : rs.length ≤ 1000) {x : D} (hx : lstOf x A = some (rs.map rowD)) : fSorted true [x] A = .ok (.lst ((sortR rs).map rowD)) A := by
  have e1 : rs.all (fun r => !r.isEmpty) = true := by
    rw [List.all_eq_true]
    intro r hr
    have h2 := hl r hr
    cases r with
    | nil => simp at h2; omega
    | cons => rfl
  have e2 : ((sortR rs).map rowD).length < 16777216 := by rw [List.length_map, sortR_len]; omega
  unfold fSorted
  simp only [hx]
  cases rs with
  | nil => exact newL_t e2
  | cons r rs =>
    simp only [intsOf_rows, rowsOfD_map, e1, if_true]
    exact newL_t e2
theorem two_len (l : List (List Bool)) : (l.flatMap fun r => [r ++ [false], r ++ [true]]).length = 2 * l.length := by
  induction l with
  | nil => rfl
  | cons r l ih => rw [List.flatMap_cons, List.length_append, ih, List.length_cons]; simp; omega
def allR : Nat → List (List Bool)
  | 0 => [[]]
  | k + 1 => (allR k).flatMap fun r => [r ++ [false], r ++ [true]]
theorem allR_len : ∀ {k : Nat} {r : List Bool}, r ∈ allR k ↔ r.length = k
  | 0, r => by simp [allR]
  | k + 1, r => by
    rw [allR, List.mem_flatMap]
    constructor
    · rintro ⟨s, hs, hr⟩
      have := allR_len.mp hs
      simp at hr
      rcases hr with rfl | rfl <;> simp [this]
    · intro h
      obtain ⟨s, b, rfl⟩ : ∃ s b, r = s ++ [b] := ⟨r.dropLast, r.getLast (by intro z; subst z; simp at h), (List.dropLast_concat_getLast _).symm⟩
      refine ⟨s, allR_len.mpr (by simpa using h), ?_⟩
      cases b <;> simp
theorem allR_size : ∀ {k : Nat}, (allR k).length = 2 ^ k
  | 0 => rfl
  | k + 1 => by
    rw [allR, two_len, allR_size, Nat.pow_succ]; omega
theorem allR_nodup : ∀ {k : Nat}, (allR k).Nodup
  | 0 => by simp [allR]
  | k + 1 => by
    have : ∀ l : List (List Bool), l.Nodup → (l.flatMap fun r => [r ++ [false], r ++ [true]]).Nodup := by
      intro l
      induction l with
      | nil => intro _; exact List.nodup_nil
      | cons r l ih =>
        intro h
        rw [List.nodup_cons] at h
        rw [List.flatMap_cons, List.nodup_append]
        refine ⟨by simp, ih h.2, ?_⟩
        intro a ha b hb e
        subst e
        obtain ⟨s, hs, hb⟩ := List.mem_flatMap.mp hb
        have : a.dropLast = r := by simp at ha; rcases ha with rfl | rfl <;> simp
        have : a.dropLast = s := by simp at hb; rcases hb with rfl | rfl <;> simp
        simp_all
    rw [allR]
    exact this _ allR_nodup
theorem rows_step {l : List (List Bool)} {m i X : D} {x4 : Option D} {s : Src} {n : Nat} (hs : s.items = l.map rowD) (hn : n = A.length) (hz : l.length ≤ 1000) (hl : ∀ r ∈ l, r.length ≤ 1000) (hk : ∀ o, s.ok (A ++ [o])) :
    ∃ y, forD s.ok (tgN 4) b_all_rows_1 s.items [some m, some X, some i, some (.ref n), x4] (A ++ [.lst []]) = .ok (.nx [some m, some X, some i, some (.ref n), y]) (A ++ [.lst ((l.flatMap fun r => [r ++ [false], r ++ [true]]).map rowD)]) := by
  subst hn
  rw [hs]
  obtain ⟨σ', A', e, y, rfl, rfl⟩ := forD_p (ok := s.ok) (tg := tgN 4) (body := b_all_rows_1) (f := rowD) (xs := l) (σ := [some m, some X, some i, some (.ref A.length), x4]) (A := A ++ [.lst []])
    (fun p σ A' => ∃ y, σ = [some m, some X, some i, some (.ref A.length), y] ∧ A' = A ++ [.lst ((p.flatMap fun r => [r ++ [false], r ++ [true]]).map rowD)])
    (fun p σ A' h => by obtain ⟨_, _, rfl⟩ := h; exact hk _) ⟨x4, rfl, rfl⟩
    fun p r q e σ A' ⟨y, hσ, hA⟩ => by
      subst hσ hA
      have hr : r.length ≤ 1000 := hl r (by rw [e]; simp)
      have hp : p.length ≤ 1000 := by have := congrArg List.length e; simp at this; omega
      have c1 : dAdd true (rowD r) (.tup [.bl false]) (A ++ [.lst ((p.flatMap fun r => [r ++ [false], r ++ [true]]).map rowD)]) = .ok (rowD (r ++ [false])) _ := dAdd_rr2 (s := [false]) (by simp; omega)
      have c2 : dAdd true (rowD r) (.tup [.bl true]) (A ++ [.lst ((p.flatMap fun r => [r ++ [false], r ++ [true]]).map rowD)]) = .ok (rowD (r ++ [true])) _ := dAdd_rr2 (s := [true]) (by simp; omega)
      have c3 : (p.flatMap fun r => [r ++ [false], r ++ [true]]).length = 2 * p.length := by
        exact two_len p
      refine ⟨_, _, [some m, some X, some i, some (.ref A.length), some (rowD r)], _, tgN_e, .inl ?_, some (rowD r), rfl, rfl⟩
      rw [List.flatMap_append, List.map_append]
      generalize hP : (p.flatMap fun r => [r ++ [false], r ++ [true]]) = P at *
      have c4 : fExtend (.ref A.length) [.lst [rowD (r ++ [false]), rowD (r ++ [true])]] (A ++ [.lst (P.map rowD)]) = .ok .non (A ++ [.lst (P.map rowD ++ [rowD (r ++ [false]), rowD (r ++ [true])])]) := by
        rw [fExtend_e (ds := P.map rowD) (es := [rowD (r ++ [false]), rowD (r ++ [true])]) (by simp) rfl (by simp; omega)]; simp
      simp [b_all_rows_1, c1, c2, c4]
  exact ⟨y, e⟩
theorem rng_0 {m : Nat} : rng 0 m = (List.range m).map fun i : Nat => D.int (i : Int) := by simp [rng]
def RowsAt (X : D) (A : List O) (l : List (List Bool)) : Prop := ∃ s : Src, s.items = l.map rowD ∧ ∀ o, srcOf X (A ++ [o]) = .ok s (A ++ [o]) ∧ s.ok (A ++ [o])
theorem rowsAt_ref {n : Nat} {l : List (List Bool)} (h : A[n]? = some (.lst (l.map rowD))) : RowsAt (.ref n) A l := by
  refine ⟨.live (.ref n) (l.map rowD), rfl, fun o => ?_⟩
  have e : (A ++ [o])[n]? = some (.lst (l.map rowD)) := by rw [List.getElem?_append_left (List.getElem?_eq_some_iff.mp h).1, h]
  refine ⟨by rw [srcOf_r, e], ?_⟩
  show lstOf (.ref n) (A ++ [o]) = _
  rw [lstOf_ref, e]
theorem prog_rows_ok {m : Nat} (h0 : 1 ≤ m) (hm : m ≤ 8) : ∃ B X, m_all_rows [.int m] A = .ok X (A ++ B) ∧ lstOf X (A ++ B) = some ((allR m).map rowD) := by
  have hz : ∀ {k : Nat}, k ≤ m → (allR k).length ≤ 256 := fun {k} hk => by
    rw [allR_size]
    exact Nat.pow_le_pow_right (n := 2) (by decide) (by omega : k ≤ 8)
  obtain ⟨σ', A', e, x, y, X, B, rfl, rfl, h1, _, h2⟩ := forD_p (ok := fun _ => True) (tg := tgN 2) (body := b_all_rows_2) (f := fun i : Nat => .int (0 + (i : Int))) (xs := List.range m) (σ := [some (.int m), some (.lst [.tup []]), none, none, none]) (A := A)
    (fun p σ A' => ∃ x y X B, σ = [some (.int m), some X] ++ x ++ [y] ∧ A' = A ++ B ∧ x.length = 2 ∧ RowsAt X A' (allR p.length) ∧ (p ≠ [] → ∃ n, X = .ref n ∧ A'[n]? = some (.lst ((allR p.length).map rowD))))
    (fun _ _ _ _ => trivial) ⟨[none, none], none, _, [], rfl, by simp, rfl, ⟨.fix [.tup []], rfl, fun _ => ⟨rfl, trivial⟩⟩, fun h => absurd rfl h⟩
    fun p i q e σ A' ⟨x, y, X, B, hσ, hA, hx, ⟨s, s2, s3⟩, _⟩ => by
      subst hσ
      obtain ⟨x1, x2, rfl⟩ : ∃ a b, x = [a, b] := by
        match x, hx with
        | [a, b], _ => exact ⟨a, b, rfl⟩
      have hp : p.length < m := by have := congrArg List.length e; simp at this; omega
      obtain ⟨y2, e2⟩ := rows_step (A := A') (m := .int m) (i := .int (0 + (i : Int))) (X := X) (x4 := y) (s := s) (n := A'.length) s2 rfl (by have := hz (Nat.le_of_lt hp); omega) (fun r hr => by rw [allR_len.mp hr]; omega) fun o => (s3 o).2
      have e3 : allR (p ++ [i]).length = (allR p.length).flatMap fun r => [r ++ [false], r ++ [true]] := by rw [List.length_append]; rfl
      rw [← e3] at e2
      have e4 : (A' ++ [O.lst ((allR (p ++ [i]).length).map rowD)])[A'.length]? = some (.lst ((allR (p ++ [i]).length).map rowD)) := by simp
      have s4 := (s3 (.lst [])).1
      rw [Int.zero_add] at e2
      refine ⟨_, _, [some (.int m), some (.ref A'.length), some (.int (0 + (i : Int))), some (.ref A'.length), y2], A' ++ [.lst ((allR (p ++ [i]).length).map rowD)], tgN_e, .inl ?_, [some (.int (0 + (i : Int))), some (.ref A'.length)], y2, .ref A'.length, B ++ [.lst ((allR (p ++ [i]).length).map rowD)], rfl, by rw [hA, List.append_assoc], rfl, ?_, fun _ => ⟨_, rfl, e4⟩⟩
      · simp [b_all_rows_2, s4, e2]
      · exact rowsAt_ref e4
  obtain ⟨n, rfl, h3⟩ := h2 (by cases m with
    | zero => omega
    | succ m => rw [List.range_succ]; simp)
  rw [List.length_range] at h3
  match x, h1 with
  | [a, b], _ =>
  refine ⟨B, .ref n, ?_, by rw [lstOf_ref, h3]⟩
  have e1 := rng_0 (m := m)
  simp only [Int.zero_add] at e
  have hm2 : (m : Int) < 4611686018427387904 := by omega
  have hm3 : (-4611686018427387904 : Int) ≤ m := by omega
  have e5 : b_all_rows [some (.int m), none, none, none, none] A = .ok (.rt (.ref n)) (A ++ B) := by
    simp [b_all_rows, e1, e, hm2, hm3]
  show trimR A (endB (b_all_rows [some (.int m), none, none, none, none] A)) = _
  rw [e5]
  exact trimR_nr noR_ref
end
end Mb
end
section
namespace Mb
open PySem PySem.Spec L2 Vi
theorem runB_nx {N : Nat} {b : SM} {args : List D} {A A' : List O} {e σ : Vi.Env} (h : args.map some ++ List.replicate (N - args.length) none = e) (k : b e A = .ok (.nx σ) A') : runB N b args A = trimR A (.ok .non A') := by
  unfold runB
  rw [h, k]; rfl
theorem runB_rt {N : Nat} {b : SM} {args : List D} {A A' : List O} {e : Vi.Env} {d : D} (h : args.map some ++ List.replicate (N - args.length) none = e) (k : b e A = .ok (.rt d) A') : runB N b args A = trimR A (.ok d A') := by
  unfold runB
  rw [h, k]; rfl
noncomputable def newCase (xs : List D) (A : List O) : R D := trimR A ((m_Case_init (.ref A.length :: xs) (A ++ [.ins "Case" [] []])).bind fun v B => match v with
  | .non => frzO A.length B
  | _ => .no)
@[simp ↓] theorem mCase_e {dds : List D} {mr : M (List D)} {σ : Vi.Env} {A : List O} : mMake true "Case" m_Case_init dds mr σ A = (mr σ A).bind fun xs A => newCase (xs ++ dds) A := rfl
def nsC : List Str := ["case_many", "case_decision", "case_rows"]
noncomputable def caseD (m : Nat) (d : D) (rs : List (List Bool)) : D := .obj "Case" nsC [.int m, d, .db rs (rs.map fun r => .bl (ansB d r))]
structure Rows (m : Nat) (rs : List (List Bool)) : Prop where
  len : ∀ r ∈ rs, r.length = m
  nd : rs.Nodup
  ne : rs ≠ []
  sz : rs.length ≤ 1000
theorem Rows.sort {m : Nat} {rs : List (List Bool)} (h : Rows m rs) : Rows m (sortR rs) := ⟨fun r hr => h.len r (sortR_mem.mp hr), sortR_nodup h.nd, fun e => h.ne (by have := sortR_len (rs := rs); rw [e] at this; exact List.length_eq_zero_iff.mp this.symm), by rw [sortR_len]; exact h.sz⟩
theorem allR_rows {m : Nat} (hm : m ≤ 8) : Rows m (allR m) := ⟨fun r h => allR_len.mp h, allR_nodup, fun e => by have := allR_size (k := m); rw [e] at this; simp at this; have := Nat.two_pow_pos m; omega, by rw [allR_size]; exact Nat.le_trans (Nat.pow_le_pow_right (n := 2) (by decide) hm) (by decide)⟩
section
variable {m n s : Nat} {d : D} {rs : List (List Bool)} {A : List O}
theorem fill_ok (hm : m ≤ 8) (hd : Dec m n s d) (hn : n ≤ 12) {xs : List (List Bool)} (hr : Rows m xs) {X : D} {y : Option D} {B : List O} :
    ∃ y', forD (fun _ => True) (tgN 4) b_Case_init_1 (xs.map rowD) [some (.ref A.length), some (.int m), some d, some X, y] (A ++ [.ins "Case" nsC [.int m, d, .ref (A.length + 1)], .dct [] []] ++ B)
      = .ok (.nx [some (.ref A.length), some (.int m), some d, some X, y']) (A ++ [.ins "Case" nsC [.int m, d, .ref (A.length + 1)], tblO (fun r => .bl (ansB d r)) xs] ++ B) := by
  obtain ⟨σ', A', e, y', rfl, rfl⟩ := forD_p (ok := fun _ => True) (tg := tgN 4) (body := b_Case_init_1) (f := rowD) (xs := xs) (σ := [some (.ref A.length), some (.int m), some d, some X, y]) (A := A ++ [.ins "Case" nsC [.int m, d, .ref (A.length + 1)], .dct [] []] ++ B)
    (fun p σ A' => ∃ y', σ = [some (.ref A.length), some (.int m), some d, some X, y'] ∧ A' = A ++ [.ins "Case" nsC [.int m, d, .ref (A.length + 1)], tblO (fun r => .bl (ansB d r)) p] ++ B) (fun _ _ _ _ => trivial) ⟨y, rfl, rfl⟩
    fun p r q e σ A' ⟨y, hσ, hA⟩ => by
      subst hσ hA
      have hr1 : r ∈ xs := by rw [e]; simp
      have hk := kIx_mem hr.nd e
      have hpl : p.length < 16777216 := by
        have := congrArg List.length e
        have := hr.sz
        simp at *; omega
      have f1 := fun A => (ans_eq (by omega : m ≤ 10) (hr.len r hr1) (by omega) hd A).1
      have f2 : ∀ o, dFld "Case" "case_rows" (.ref A.length) (A ++ [.ins "Case" nsC [.int m, d, .ref (A.length + 1)], o] ++ B) = .ok (.ref (A.length + 1)) (A ++ [.ins "Case" nsC [.int m, d, .ref (A.length + 1)], o] ++ B) := fun o =>
        dFld_ref (i := 2) (ns := nsC) (ds := [.int m, d, .ref (A.length + 1)]) (by simp) (by decide) rfl
      refine ⟨_, _, [some (.ref A.length), some (.int m), some d, some X, some (rowD r)], A ++ [.ins "Case" nsC [.int m, d, .ref (A.length + 1)], tblO (fun r => .bl (ansB d r)) (p ++ [r])] ++ B, tgN_e, .inl ?_, some (rowD r), rfl, rfl⟩
      by_cases hp : p = []
      · subst hp
        have t1 : tblO (fun r => .bl (ansB d r)) [] = .dct [] [] := rfl
        have t2 : tblO (fun r => .bl (ansB d r)) ([] ++ [r]) = .dtb [r] [.bl (ansB d r)] := rfl
        have f3 : setIxT (.ref (A.length + 1)) (rowD r) (.bl (ansB d r)) (A ++ [.ins "Case" nsC [.int m, d, .ref (A.length + 1)], .dct [] []] ++ B) = some (A ++ [.ins "Case" nsC [.int m, d, .ref (A.length + 1)], .dtb [r] [.bl (ansB d r)]] ++ B) := by
          rw [setIxT_0 keyK_row rowOf_row (ds := []) (by simp)]; simp
        rw [t1, t2]
        have f2 := f2 (.dct [] [])
        generalize (A ++ [.ins "Case" nsC [.int m, d, .ref (A.length + 1)], .dct [] []] ++ B) = Z at *
        simp [b_Case_init_1, f1, f2, f3]
      · have t1 : tblO (fun r => .bl (ansB d r)) p = .dtb p (p.map fun r => .bl (ansB d r)) := if_neg hp
        have t2 : tblO (fun r => .bl (ansB d r)) (p ++ [r]) = .dtb (p ++ [r]) (p.map (fun r => .bl (ansB d r)) ++ [.bl (ansB d r)]) := by
          rw [tblO, if_neg (by simp), List.map_append]; rfl
        have f3 : setIxT (.ref (A.length + 1)) (rowD r) (.bl (ansB d r)) (A ++ [.ins "Case" nsC [.int m, d, .ref (A.length + 1)], .dtb p (p.map fun r => .bl (ansB d r))] ++ B) = some (A ++ [.ins "Case" nsC [.int m, d, .ref (A.length + 1)], .dtb (p ++ [r]) (p.map (fun r => .bl (ansB d r)) ++ [.bl (ansB d r)])] ++ B) := by
          rw [setIxT_new rowOf_row (ks := p) (ds := p.map fun r => .bl (ansB d r)) (by simp) hpl hk]; simp
        rw [t1, t2]
        have f2 := f2 (.dtb p (p.map fun r => .bl (ansB d r)))
        generalize (A ++ [.ins "Case" nsC [.int m, d, .ref (A.length + 1)], .dtb p (p.map fun r => .bl (ansB d r))] ++ B) = Z at *
        simp [b_Case_init_1, f1, f2, f3]
  exact ⟨y', e⟩
theorem frzO_case {xs : List (List Bool)} (hx : xs ≠ []) (hd : noR d = true) {B : List O} : trimR A (frzO A.length (A ++ [.ins "Case" nsC [.int m, d, .ref (A.length + 1)], tblO (fun r => .bl (ansB d r)) xs] ++ B)) = .ok (caseD m d xs) A := by
  have t1 : tblO (fun r => .bl (ansB d r)) xs = .dtb xs (xs.map fun r => .bl (ansB d r)) := if_neg hx
  have e1 : (A ++ [.ins "Case" nsC [.int m, d, .ref (A.length + 1)], O.dtb xs (xs.map fun r => .bl (ansB d r))] ++ B)[A.length]? = some (.ins "Case" nsC [.int m, d, .ref (A.length + 1)]) := by simp
  have e2 : (A ++ [.ins "Case" nsC [.int m, d, .ref (A.length + 1)], O.dtb xs (xs.map fun r => .bl (ansB d r))] ++ B)[A.length + 1]? = some (O.dtb xs (xs.map fun r => .bl (ansB d r))) := by simp
  have e3 : frzL [.int m, d, .ref (A.length + 1)] (A ++ [.ins "Case" nsC [.int m, d, .ref (A.length + 1)], O.dtb xs (xs.map fun r => .bl (ansB d r))] ++ B) = ([.int m, d, .db xs (xs.map fun r => .bl (ansB d r))], A ++ [.ins "Case" nsC [.int m, d, .ref (A.length + 1)], O.dead] ++ B) := by
    simp only [frzL]
    rw [frz1_no (d := .int m) noR_int]
    simp only [frz1_no hd]
    unfold frz1
    simp only [e2]
    simp
  rw [t1]
  unfold frzO
  simp only [e1, e3]
  simp [caseD]
  exact trimR_app (by simp [hd])
theorem init_ok (h0 : 1 ≤ m) (hm : m ≤ 8) (hd : Dec m n s d) (hn : n ≤ 12) (hs : isDec m d = true) {X : D} (hX : X = .non ∧ rs = allR m ∨ X = .lst (rs.map rowD) ∧ Rows m rs) :
    ∃ B, m_Case_init [.ref A.length, .int m, d, X] (A ++ [.ins "Case" [] []]) = .ok .non (A ++ [.ins "Case" nsC [.int m, d, .ref (A.length + 1)], tblO (fun r => .bl (ansB d r)) (sortR rs)] ++ B) := by
  have hr : Rows m rs := by
    rcases hX with ⟨_, rfl⟩ | ⟨_, h⟩
    · exact allR_rows hm
    · exact h
  have e1 := is_within_ok (A := A ++ [.ins "Case" [] []]) (lo := 1) (hi := 8) (Dat.int (n := 0) (i := (m : Int)))
  have e2 := is_decision_ok (many := m) (k := 36) (by decide) ((hd.dat).mono (by omega)) (A ++ [.ins "Case" [] []])
  rw [hs] at e2
  have e3 : within (.int m) 1 8 = true := by simp [within]; omega
  rw [e3] at e1
  have g1 : setFld "Case" "case_many" (.ref A.length) (.int m) (A ++ [.ins "Case" [] []]) = some (A ++ [.ins "Case" ["case_many"] [.int m]]) := by
    rw [setFld_new (ns := []) (ds := []) (by simp) (by decide) (by decide)]; simp
  have g2 : setFld "Case" "case_decision" (.ref A.length) d (A ++ [.ins "Case" ["case_many"] [.int m]]) = some (A ++ [.ins "Case" ["case_many", "case_decision"] [.int m, d]]) := by
    rw [setFld_new (ns := ["case_many"]) (ds := [.int m]) (by simp) (by decide) (by decide)]; simp
  have g3 : setFld "Case" "case_rows" (.ref A.length) (.ref (A.length + 1)) (A ++ [.ins "Case" ["case_many", "case_decision"] [.int m, d], .dct [] []]) = some (A ++ [.ins "Case" nsC [.int m, d, .ref (A.length + 1)], .dct [] []]) := by
    rw [setFld_new (ns := ["case_many", "case_decision"]) (ds := [.int m, d]) (by simp) (by decide) (by decide)]; simp [nsC]
  have g4 : ∃ B, (mSrc (mA (fSorted true) (mArgs (mIte (mBl (m2 dIs (mVar 3) (mC .non))) (mCall m_all_rows [] (mArgs (mVar 1) mArgs0)) (mVar 3)) mArgs0))) [some (.ref A.length), some (.int m), some d, some X, none] (A ++ [.ins "Case" nsC [.int m, d, .ref (A.length + 1)], .dct [] []])
      = .ok (.fix ((sortR rs).map rowD)) (A ++ [.ins "Case" nsC [.int m, d, .ref (A.length + 1)], .dct [] []] ++ B) := by
    generalize (A ++ [.ins "Case" nsC [.int m, d, .ref (A.length + 1)], .dct [] []]) = Z
    rcases hX with ⟨rfl, rfl⟩ | ⟨rfl, _⟩
    · obtain ⟨B, Y, y1, y2⟩ := prog_rows_ok (A := Z) h0 hm
      have y3 := sorted_rows_ok h0 hr.len hr.sz y2
      exact ⟨B, by simp [y1, y3]⟩
    · have y3 := sorted_rows_ok (A := Z) (x := .lst (rs.map rowD)) h0 hr.len hr.sz rfl
      exact ⟨[], by simp [y3]⟩
  have g5 : (isNon X = true) ∨ (isNon X = false ∧ m_look_at_rows [.int m, X] (A ++ [.ins "Case" [] []]) = .ok .non (A ++ [.ins "Case" [] []])) := by
    rcases hX with ⟨rfl, rfl⟩ | ⟨rfl, h⟩
    · exact .inl rfl
    · exact .inr ⟨rfl, look_at_rows_ok (by omega) h.len h.nd h.ne h.sz _⟩
  obtain ⟨B, g4⟩ := g4
  obtain ⟨y', g6⟩ := fill_ok (A := A) hm hd hn hr.sort (X := X) (y := none) (B := B)
  refine ⟨B, ?_⟩
  have key : b_Case_init [some (.ref A.length), some (.int m), some d, some X, none] (A ++ [.ins "Case" [] []]) = .ok (.nx [some (.ref A.length), some (.int m), some d, some X, y']) (A ++ [.ins "Case" nsC [.int m, d, .ref (A.length + 1)], tblO (fun r => .bl (ansB d r)) (sortR rs)] ++ B) := by
    have g7 : (sFor (mSrc (mA (fSorted true) (mArgs (mIte (mBl (m2 dIs (mVar 3) (mC .non))) (mCall m_all_rows [] (mArgs (mVar 1) mArgs0)) (mVar 3)) mArgs0))) (tgN 4) b_Case_init_1) [some (.ref A.length), some (.int m), some d, some X, none] (A ++ [.ins "Case" nsC [.int m, d, .ref (A.length + 1)], .dct [] []]) = .ok (.nx [some (.ref A.length), some (.int m), some d, some X, y']) (A ++ [.ins "Case" nsC [.int m, d, .ref (A.length + 1)], tblO (fun r => .bl (ansB d r)) (sortR rs)] ++ B) := by
      rw [sFor_e, withE_e, g4]
      exact g6
    unfold b_Case_init
    generalize (sFor (mSrc (mA (fSorted true) (mArgs (mIte (mBl (m2 dIs (mVar 3) (mC .non))) (mCall m_all_rows [] (mArgs (mVar 1) mArgs0)) (mVar 3)) mArgs0))) (tgN 4) b_Case_init_1) = F at *
    rcases g5 with g5 | ⟨g5, g8⟩
    · simp [e1, e2, g1, g2, g3, g5, g7]
    · simp [e1, e2, g1, g2, g3, g5, g7, g8]
  unfold m_Case_init
  rw [runB_nx rfl key]
  refine trimR_keep fun ⟨_, _, h⟩ => ?_
  have := h A.length (by simp)
  simp at this
  rw [noRO, noRs_all] at this
  simp at this
theorem newCase_ok2 (h0 : 1 ≤ m) (hm : m ≤ 8) (hd : Dec m n s d) (hn : n ≤ 12) (hs : isDec m d = true) {X : D} (hX : X = .non ∧ rs = allR m ∨ X = .lst (rs.map rowD) ∧ Rows m rs) :
    newCase [.int m, d, X] A = .ok (caseD m d (sortR rs)) A := by
  have hr : Rows m rs := by
    rcases hX with ⟨_, rfl⟩ | ⟨_, h⟩
    · exact allR_rows hm
    · exact h
  obtain ⟨B, e⟩ := init_ok (A := A) h0 hm hd hn hs hX
  unfold newCase
  rw [e]
  exact frzO_case hr.sort.ne hd.noR
theorem newCase_ok (h0 : 1 ≤ m) (hm : m ≤ 8) (hd : Dec m n s d) (hn : n ≤ 12) (hs : s ≤ 60) {X : D} (hX : X = .non ∧ rs = allR m ∨ X = .lst (rs.map rowD) ∧ Rows m rs) :
    newCase [.int m, d, X] A = .ok (caseD m d (sortR rs)) A := newCase_ok2 h0 hm hd hn (hd.isDec hn hs) hX
end
end Mb
end
section
namespace Mb
open PySem PySem.Spec L2 Vi
structure Cs (m : Nat) (d : D) (xs : List (List Bool)) : Prop where
  lo : 1 ≤ m
  hi : m ≤ 8
  dec : ∃ n s, Dec m n s d ∧ n ≤ 12 ∧ isDec m d = true ∧ Pyd 36 3840 d
  rows : Rows m xs
theorem Cs.dec60 {m n s : Nat} {d : D} (hm : m ≤ 8) (hd : Dec m n s d) (hn : n ≤ 12) (hs : s ≤ 60) : ∃ n s, Dec m n s d ∧ n ≤ 12 ∧ isDec m d = true ∧ Pyd 36 3840 d :=
  ⟨n, s, hd, hn, hd.isDec hn hs, (hd.py (by omega)).mono (by omega) (by omega)⟩
section
variable {m w : Nat} {d : D} {xs : List (List Bool)} {A : List O} {r : List Bool}
theorem Cs.noR (h : Cs m d xs) : Vi.noR d = true := by
  obtain ⟨n, s, hd, hn, _⟩ := h.dec
  exact hd.noR
@[simp] theorem insOf_case : insOf (caseD m d xs) A = some ("Case", nsC, [.int m, d, .db xs (xs.map fun r => .bl (ansB d r))]) := rfl
@[simp] theorem f_many : fIx nsC "many" = none := by decide
@[simp] theorem f_rows : fIx nsC "rows" = none := by decide
@[simp] theorem f_can_be : fIx nsC "can_be" = none := by decide
@[simp] theorem f_answer : fIx nsC "answer" = none := by decide
@[simp] theorem f_look : fIx nsC "look_at_row" = none := by decide
@[simp] theorem g_many : dFld "Case" "case_many" (caseD m d xs) A = .ok (.int m) A := dFld_obj (i := 0) (by decide) rfl
@[simp] theorem g_dec : dFld "Case" "case_decision" (caseD m d xs) A = .ok d A := dFld_obj (i := 1) (by decide) rfl
@[simp] theorem g_rows : dFld "Case" "case_rows" (caseD m d xs) A = .ok (.db xs (xs.map fun r => .bl (ansB d r))) A := dFld_obj (i := 2) (by decide) rfl
noncomputable def sway (d : D) (r : List Bool) (w : Nat) : Bool := ansB d r != ansB d (tn r w)
def twP (w : Nat) (xs : List (List Bool)) : List (List Bool × List Bool) := (xs.filter fun r => !wat r w && decide (tn r w ∈ xs)).map fun r => (r, tn r w)
noncomputable def stP (d : D) (w : Nat) (xs : List (List Bool)) : List (List Bool × List Bool) := (twP w xs).filter fun p => ansB d p.1 != ansB d p.2
noncomputable def swR (d : D) (w : Nat) (xs : List (List Bool)) : List (List Bool) := xs.filter fun r => sway d r w
noncomputable def hvR (d : D) (w : Nat) (S : List (List Bool)) (l : List Bool) : List (List Bool) := S.filter fun h => wat h w && (ansB d h != ansB d l)
noncomputable def loL (d : D) (w : Nat) (S p : List (List Bool)) : List (List Bool × List Bool) := p.flatMap fun l => if wat l w then [] else (hvR d w S l).map fun h => (l, h)
noncomputable def loP (d : D) (w : Nat) (xs : List (List Bool)) : List (List Bool × List Bool) := loL d w (swR d w xs) (swR d w xs)
end
end Mb
end
section
namespace Vi
open PySem PySem.Spec L2
end Vi
namespace Mb
open PySem PySem.Spec L2 Vi
theorem rowOf_inj {m i j : Nat} (hi : i < 2 ^ m) (hj : j < 2 ^ m) (h : rowOf m i = rowOf m j) : i = j := by
  refine Nat.eq_of_testBit_eq fun k => ?_
  by_cases hk : k < m
  · have := congrArg (fun l => l[m - 1 - k]?) h
    simp only [rowOf, List.getElem?_map, List.getElem?_range (by omega : m - 1 - k < m), Option.map_some, Option.some.injEq] at this
    rw [show m - 1 - (m - 1 - k) = k by omega] at this
    rw [Nat.testBit_eq_decide_div_mod_eq, Nat.testBit_eq_decide_div_mod_eq]
    exact this
  · have h2 := Nat.pow_le_pow_right (n := 2) (by decide) (by omega : m ≤ k)
    rw [Nat.testBit_lt_two_pow (by omega), Nat.testBit_lt_two_pow (by omega)]
theorem rowsOf_nodup {m : Nat} : (rowsOf m).Nodup := by
  unfold rowsOf
  have : ∀ l : List Nat, l.Nodup → (∀ i ∈ l, i < 2 ^ m) → (l.map (rowOf m)).Nodup := by
    intro l
    induction l with
    | nil => intro _ _; exact List.nodup_nil
    | cons i l ih =>
      intro h1 h2
      rw [List.nodup_cons] at h1
      rw [List.map_cons, List.nodup_cons]
      refine ⟨fun h => ?_, ih h1.2 fun j hj => h2 j (List.mem_cons_of_mem _ hj)⟩
      obtain ⟨j, hj, e⟩ := List.mem_map.mp h
      have := rowOf_inj (h2 j (List.mem_cons_of_mem _ hj)) (h2 i (List.mem_cons_self ..)) e
      exact h1.1 (this ▸ hj)
  exact this _ List.nodup_range fun i hi => List.mem_range.mp hi
theorem rowsOf_sz {m : Nat} : (rowsOf m).length = 2 ^ m := by simp [rowsOf]
def Part (m : Nat) (rs : List (List Bool)) : Prop := ∃ ks, ks.Sublist (rowsOf m) ∧ ∃ q, q.Perm ks ∧ rs.Sublist q
theorem Part.rows {m : Nat} {rs : List (List Bool)} (hm : m ≤ 8) (h : Part m rs) (h0 : rs ≠ []) : Rows m rs := by
  obtain ⟨ks, h1, q, h2, h3⟩ := h
  refine ⟨fun r hr => rowsOf_len (h1.subset (h2.subset (h3.subset hr))), ((h2.nodup_iff).mpr (rowsOf_nodup.sublist h1)).sublist h3, h0, ?_⟩
  have a1 := h3.length_le
  have a2 := h2.length_eq
  have a3 := h1.length_le
  have a4 := Nat.pow_le_pow_right (n := 2) (by decide) hm
  rw [rowsOf_sz] at a3
  omega
end Mb
end
section
namespace Mb
open PySem PySem.Spec L2 Vi
end Mb
end
section
namespace Mb
open PySem PySem.Spec L2 Vi
structure Drawn (k z m : Nat) (d : D) (rs : List (List Bool)) : Prop where
  lo : 1 ≤ m
  hi : m ≤ k
  dec : ∃ s, Dec m 6 s d ∧ s ≤ 31
  rows : Rows m rs
  sz : rs.length ≤ z
theorem Drawn.all {k z m : Nat} {d : D} {rs : List (List Bool)} (h : Drawn k z m d rs) (hk : k ≤ 8) : Cs m d (sortR (allR m)) := by
  obtain ⟨s, h1, h2⟩ := h.dec
  exact ⟨h.lo, Nat.le_trans h.hi hk, Cs.dec60 (Nat.le_trans h.hi hk) h1 (by decide) (by omega), (allR_rows (Nat.le_trans h.hi hk)).sort⟩
theorem Drawn.new {k z m : Nat} {d : D} {rs : List (List Bool)} (h : Drawn k z m d rs) (hk : k ≤ 8) (A : List O) : newCase [.int m, d, .lst (rs.map rowD)] A = .ok (caseD m d (sortR rs)) A := by
  obtain ⟨s, h1, h2⟩ := h.dec
  exact newCase_ok h.lo (Nat.le_trans h.hi hk) h1 (by decide) (by omega) (.inr ⟨rfl, h.rows⟩)
end Mb
end
section
namespace Mb
open PySem PySem.Spec L2 Vi
theorem trimR_some {A A' : List O} {d : D} : ∃ B, trimR A (.ok d A') = .ok d B := by
  by_cases h : TrimC A d A'
  · exact ⟨_, if_pos h⟩
  · exact ⟨_, if_neg h⟩
end Mb
end
section
namespace Mb
open PySem PySem.Spec L2 Vi
end Mb
end
section
namespace Mb
open PySem PySem.Spec L2 Vi
noncomputable def b_look_at_rows_b_1 : SM :=
  (sIf (mOrT (mNotT (mTru (mCall m_is_row [] (mArgs (mVar 3) (mArgs (mMethC "Case" "many" m_Case_many [] (mVar 0) mArgs0) mArgs0))))) (mOrT (mNotT (mTru (mMethC "Case" "can_be" m_Case_can_be [] (mVar 0) (mArgs (mVar 3) mArgs0)))) (mBl (m2 (orD (dIn false) (dInD false)) (mVar 3) (mSl true (mVar 1) mNoPart (mPart (mVar 2)))))))
  (sRaiseX "NoBook" ["place"] (mArgs (mVar 2) mArgs0))
  sPass)
noncomputable def b_look_at_rows_b : SM :=
  (sSeq (sIf (mNotT (mTru (mA fIsi (mArgs (mVar 1) (mArgs (mC (.ty .list)) mArgs0)))))
  (sRaiseX "NoBook" ["place"] (mArgs (mC .non) mArgs0))
  sPass)
  (sFor (mSrcA fEnum (mArgs (mVar 1) mArgs0)) (tgT 2 (tgsCons (tgN 2) (tgsCons (tgN 3) tgsNil)))
  b_look_at_rows_b_1))
noncomputable def m_look_at_rows_b : List D → List O → R D := runB 4 b_look_at_rows_b
noncomputable def b_Book_init : SM :=
  (sSeq (sExpr (mCall m_look_at_rows_b [] (mArgs (mVar 1) (mArgs (mVar 2) mArgs0))))
  (sFldD "Book" "own_rows" (mVar 0) (mA (fListOf true) (mArgs (mVar 2) mArgs0))))
noncomputable def m_Book_init : List D → List O → R D := runB 3 b_Book_init
end Mb
end
section
namespace Mb
open PySem PySem.Spec L2 Vi
def nsB : List Str := ["own_rows"]
def bookD (bs : List (List Bool)) : D := .obj "Book" nsB [.lst (bs.map rowD)]
noncomputable def newBook (xs : List D) (A : List O) : R D := trimR A ((m_Book_init (.ref A.length :: xs) (A ++ [.ins "Book" [] []])).bind fun v B => match v with
  | .non => frzO A.length B
  | _ => .no)
@[simp ↓] theorem mBook_e {dds : List D} {mr : M (List D)} {σ : Vi.Env} {A : List O} : mMake true "Book" m_Book_init dds mr σ A = (mr σ A).bind fun xs A => newBook (xs ++ dds) A := rfl
@[simp] theorem insOf_book {bs : List (List Bool)} {A : List O} : insOf (bookD bs) A = some ("Book", nsB, [.lst (bs.map rowD)]) := rfl
section
variable {m w : Nat} {d : D} {X bs rs : List (List Bool)} {A : List O} {r : List Bool}
@[simp] theorem fb_rows : fIx nsB "rows" = none := by decide
@[simp] theorem gb_rows : dFld "Book" "own_rows" (bookD bs) A = .ok (.lst (bs.map rowD)) A := dFld_obj (i := 0) (by decide) rfl
structure Bk (m : Nat) (X bs : List (List Bool)) : Prop where
  sub : ∀ r ∈ bs, r ∈ X
  nd : bs.Nodup
noncomputable def prs (d : D) (w : Nat) (X : List (List Bool)) (lo : Bool) : List (List Bool × List Bool) := if lo then loP d w X else stP d w X
def inB (bs : List (List Bool)) (p : List Bool × List Bool) : Bool := decide (p.1 ∈ bs) && decide (p.2 ∈ bs)
noncomputable def shown (m : Nat) (d : D) (X bs : List (List Bool)) (lo : Bool) : List Nat := (List.range m).filter fun w => (prs d w X lo).any (inB bs)
end
end Mb
end
section
namespace Mb
open PySem PySem.Spec L2 Vi
section
variable {m w n : Nat} {d : D} {X bs rs : List (List Bool)} {A : List O} {r : List Bool}
def SubP (bs rs : List (List Bool)) : Prop := ∃ ks, ks.Sublist rs ∧ bs.Perm ks
theorem SubP.bk (h : SubP bs rs) (hn : rs.Nodup) (hs : ∀ r ∈ rs, r ∈ X) : Bk m X bs := by
  obtain ⟨ks, h1, h2⟩ := h
  exact ⟨fun r hr => hs r (h1.subset (h2.subset hr)), h2.nodup_iff.mpr (hn.sublist h1)⟩
theorem SubP.len (h : SubP bs rs) : bs.length ≤ rs.length := by
  obtain ⟨ks, h1, h2⟩ := h
  rw [h2.length_eq]; exact h1.length_le
@[simp ↓] theorem mCall_d {mm : List D → List O → R D} {ds : List D} {mr : M (List D)} {σ : Vi.Env} : mCall mm ds mr σ A = (mr σ A).bind fun xs A => mm (xs ++ ds) A := rfl
end
end Mb
end
section
namespace Vi
open PySem PySem.Spec L2
end Vi
namespace Mb
open PySem PySem.Spec L2 Vi
end Mb
end
section
namespace Mb
open PySem PySem.Spec L2 Vi
end Mb
end
section
namespace Mb
open PySem PySem.Spec L2 Vi
end Mb
end
section
namespace Mb
open PySem PySem.Spec L2 Vi
section
variable {m w n : Nat} {d d2 : D} {X bs rs : List (List Bool)} {A : List O}
theorem Pyd.lst {k L : Nat} {ds : List D} (r : Pyl k L ds) : Pyd (k + 1) (L + 3) (.lst ds) := by
  obtain ⟨xs, f, b1, b2, b3, b4, b5⟩ := r
  refine ⟨.list xs, fun A j hj => ?_, by simpa [PyData.canLay0] using b1, by simp only [PyData.depth]; omega, by simpa [PyData.showable] using b3, by simpa [PyData.hasDict] using b4, ?_⟩
  · obtain ⟨i, rfl⟩ : ∃ i, j = i + 1 := ⟨j - 1, by omega⟩
    show (pys (py A i) ds).map _ = _
    rw [f A i (by omega)]; rfl
  · rw [PyData.shown]
    have h4 : (Str.join ", " (PyData.shownAll xs)).length ≤ piled (PyData.shownAll xs) := by
      cases h : PyData.shownAll xs with
      | nil => exact Nat.le_refl 0
      | cons t r => have := join_length_add (t :: r) (by simp); omega
    have h1 : (("[" : String) : Str).length = 1 := rfl
    have h2 : (("]" : String) : Str).length = 1 := rfl
    rw [listText_eq_join, strLen_append, strLen_append, h1, h2]
    omega
end
end Mb
end
section
namespace Vi
open PySem PySem.Spec L2
section
variable {σ σ1 : Env} {A A1 : List O} {mb ms : SM} {L : List String} {C : String} {i : Nat} {js : List Nat} {m : List D → List O → R D} {mr : M (List D)} {d : D} {ns : List Str} {ds : List D} {tab : List (String × Bool)}
@[simp ↓] theorem sRaise_e : sRaise C σ A = .ok (.xc C [] σ) A := rfl
@[simp ↓] theorem sTry_e : sTry L i mb ms σ A = (match mb σ A with
  | .ok (.xc C fs σ1) A1 => if C ∈ L then aftX i (ms (σ1.set i (some (.exc C (fs.map (·.1)) (fs.map (·.2))))) A1) else .no
  | r => r) := rfl
@[simp] theorem aftX_nx : aftX i (.ok (.nx σ) A) = .ok (.nx (σ.set i none)) A := rfl
@[simp] theorem aftX_rt : aftX i (.ok (.rt d) A) = .ok (.rt d) A := rfl
@[simp] theorem isNon_exc : isNon (.exc C ns ds) = false := rfl
@[simp] theorem fIsX_non : fIsX tab .non A = .ok (.bl false) A := rfl
@[simp] theorem fIsX_exc : fIsX tab (.exc C ns ds) A = (match tab.lookup C with
  | some b => .ok (.bl b) A
  | none => .no) := rfl
@[simp ↓] theorem mCallK_e : mCallK m js mr σ A = (mr σ A).bind fun xs A => m (pm js xs) A := rfl
end
end Vi
namespace Mb
open PySem PySem.Spec L2 Vi
theorem Pyd.bl {k : Nat} {b : Bool} : Pyd k 5 (.bl b) := ⟨.bool b, fun _ j _ => by cases j <;> rfl, rfl, Nat.zero_le _, rfl, rfl, by cases b <;> decide +kernel⟩
end Mb
end
section
namespace Mb
open PySem PySem.Spec L2 Vi
section
variable {m w : Nat} {d x : D} {X rs : List (List Bool)} {r : List Bool} {A : List O}
theorem Pyd.non {k : Nat} : Pyd k 5 .non := ⟨.none, fun _ j _ => by cases j <;> rfl, rfl, Nat.zero_le _, rfl, rfl, by decide +kernel⟩
theorem Pyd.self {k L : Nat} (h : Pyd k L x) (hk : k ≤ 64) (hs : ∀ s, x ≠ .str s) (A : List O) : dEq x x A = .ok (.bl true) A ∧ dNe x x A = .ok (.bl false) A := by
  obtain ⟨px, e1, e2, e3⟩ := h.eqs
  have e4 : PyData.eqv px px = true := PySem.SeqAt.eqv_refl px e2
  have e5 : SeqAt.shaped px = true := by
    simp [SeqAt.shaped, e2]
    omega
  refine ⟨dEq_l ?_ hs, dNe_l ?_ hs⟩
  · unfold dEqD
    simp [e1 A 64 hk, e4, e5]
  · unfold dNeD
    simp [e1 A 64 hk, e4, e5]
end
end Mb
end
section
namespace Lw
open PySem PySem.Spec L2 Vi Mb
section
variable {w p : Nat} {V : D} {s : Str} {A B : List Vi.O} {σ : Vi.Env}
def Vk (V : D) : Prop := V = .non ∨ ∃ n : Int, 0 ≤ n ∧ n ≤ 5000 ∧ V = .int n
def Sk (s : Str) : Prop := s ∈ [Str.ofString "inputs", Str.ofString "wishes", Str.ofString "rows", Str.ofString "many", Str.ofString "decision", Str.ofString "steps"]
theorem sk_ok : ∀ s : Str, Sk s → PyData.strOk s = true ∧ (reprText s).length ≤ 20 := by
  intro s h
  unfold Sk at h
  simp only [List.mem_cons, List.not_mem_nil, or_false] at h
  rcases h with rfl | rfl | rfl | rfl | rfl | rfl <;> decide +kernel
theorem n_ok : ∀ i : Fin 5001, (PyData.int (i.val : Int)).showable = true ∧ (PyData.int (i.val : Int)).shown.length ≤ 10 := by decide +kernel
theorem pyd_V (h : Vk V) : ∃ k L, k ≤ 10 ∧ Pyd k L V := by
  rcases h with rfl | ⟨n, h0, h1, rfl⟩
  · exact ⟨0, 5, by decide, Pyd.non⟩
  · have := n_ok ⟨n.toNat, by omega⟩
    rw [show ((⟨n.toNat, by omega⟩ : Fin 5001).val : Int) = n by show ((n.toNat : Nat) : Int) = n; omega] at this
    exact ⟨0, 10, by decide, .int n, fun _ j _ => by cases j <;> rfl, rfl, Nat.zero_le _, this.1, rfl, this.2⟩
theorem eq_V (h : Vk V) (A : List Vi.O) : dEq V V A = .ok (.bl true) A := by
  obtain ⟨k, L, hk, hp⟩ := pyd_V h
  refine (hp.self (by omega) (fun s e => ?_) A).1
  rcases h with rfl | ⟨n, _, _, rfl⟩ <;> cases e
theorem ne_bl (bs : List Bool) (A : List Vi.O) : dNe (.lst (bs.map D.bl)) (.lst (bs.map D.bl)) A = .ok (.bl false) A := by
  rw [dNe_l (eqD_bl.lst.neD (by decide) (fun _ _ => trivial) (fun _ _ => trivial) A) fun _ h => nomatch h]
  simp
def exW (w : Nat) (s : Str) (V : D) : D := match w with
  | 0 => .exc "NoName" ["name"] [.str "ab"]
  | 1 => .exc "NoField" ["place", "part"] [V, .str s]
  | 2 => .exc "NoCase" ["place", "part"] [V, .str s]
  | 3 => .exc "NoBook" ["place"] [V]
  | 4 => .exc "NoText" ["at"] [V]
  | 5 => .exc "TooMany" ["size"] [V]
  | 6 => .exc "NotOnce" ["wish"] [V]
  | 7 => .exc "NoProgram" ["part"] [.str s]
  | 8 => .exc "NoRow" [] []
  | 9 => .exc "NoWish" [] []
  | 10 => .exc "NoLeaf" [] []
  | 11 => .exc "NoWord" [] []
  | 12 => .exc "NoNumbers" [] []
  | 13 => .exc "NoWhen" [] []
  | 14 => .exc "NoChange" [] []
  | 15 => .exc "NoLine" [] []
  | _ => .exc "NoKeeper" [] []
def srtB (w : Nat) : List Bool := (List.range 17).map fun k => decide (k = w)
def kndB (w : Nat) : List Bool := if w = 0 then [false, false, true, true] else if w = 16 then [false, false, false, true] else [true, true, false, false]
theorem w17 (h : w < 17) : w = 0 ∨ w = 1 ∨ w = 2 ∨ w = 3 ∨ w = 4 ∨ w = 5 ∨ w = 6 ∨ w = 7 ∨ w = 8 ∨ w = 9 ∨ w = 10 ∨ w = 11 ∨ w = 12 ∨ w = 13 ∨ w = 14 ∨ w = 15 ∨ w = 16 := by omega
theorem made_ok (h : w < 17) : m_law_made [.int (w : Int), .str s, V] A = .ok (exW w s V) A := by
  rcases w17 h with rfl | rfl | rfl | rfl | rfl | rfl | rfl | rfl | rfl | rfl | rfl | rfl | rfl | rfl | rfl | rfl | rfl <;> simp [m_law_made, b_law_made, exW, atI, ixN]
theorem sorts_ok (h : w < 17) : m_law_sorts [exW w s V] A = .ok (.lst ((srtB w).map D.bl)) A := by
  rcases w17 h with rfl | rfl | rfl | rfl | rfl | rfl | rfl | rfl | rfl | rfl | rfl | rfl | rfl | rfl | rfl | rfl | rfl <;> simp [m_law_sorts, b_law_sorts, exW, fIsX, List.lookup, srtB, List.range, List.range.loop]
theorem kinds_ok (h : w < 17) : m_law_kinds [exW w s V] A = .ok (.lst ((kndB w).map D.bl)) A := by
  rcases w17 h with rfl | rfl | rfl | rfl | rfl | rfl | rfl | rfl | rfl | rfl | rfl | rfl | rfl | rfl | rfl | rfl | rfl <;> simp [m_law_kinds, b_law_kinds, exW, fIsX, List.lookup, kndB]
end
end Lw
namespace Lw
open PySem PySem.Spec L2 Vi Mb
section
variable {w p : Nat} {V : D} {s : Str} {A B : List Vi.O} {σ : Vi.Env}
theorem eq_PV (h : Vk V) (hs : Sk s) (A : List Vi.O) : dEq (.lst [.str s, V]) (.lst [.str s, V]) A = .ok (.bl true) A := by
  obtain ⟨k, L, hk, hp⟩ := pyd_V h
  obtain ⟨a, b⟩ := sk_ok s hs
  have hl : Pyl 10 _ [.str s, V] := Pyl.cons (Pyd.str (k := 10) a b) (Pyl.cons (hp.mono hk (Nat.le_refl _)) Pyl.nil)
  exact ((Pyd.lst hl).self (by decide) (fun _ h => nomatch h) A).1
theorem in12 (z : Int) : dIn false (.int z) (.lst [.int 1, .int 2]) A = .ok (.bl (decide (z = 1 ∨ z = 2))) A := by
  have q : ∀ i j : Int, eqF (.int i) (.int j) = decide (i = j) := fun i j => (show PyData.eqv (.int i) (.int j) = _ from eqD_int.eqv i j trivial trivial)
  show (match seqOf (.lst [.int 1, .int 2]) A with | some ys => if flatD (.int z) && ys.all flatD then Vi.R.ok (D.bl (ys.any fun y => eqF y (.int z))) A else Vi.R.no | none => Vi.R.no) = _
  simp [seqOf, lstOf, flatD, q, eq_comm]
theorem kept_ok (h : w < 17) (hV : Vk V) (hs : Sk s) : m_law_kept [.int (w : Int), exW w s V, .str s, V] A = .ok (.bl true) A := by
  have e1 := eq_V hV A
  have e2 := eq_PV hV hs A
  have ne1 : (Str.ofString "part" == Str.ofString "place") = false := by decide +kernel
  have n12 : newL true [.int 1, .int 2] A = .ok (.lst [.int 1, .int 2]) A := newL_t (by simp)
  have nPV : newL true [.str s, V] A = .ok (.lst [.str s, V]) A := newL_t (by simp)
  have i12 := in12 (A := A)
  have a1 : dEq (.str (Str.ofString "ab")) (.str (Str.ofString "ab")) A = .ok (.bl true) A := by simp
  have a2 : dEq (.str s) (.str s) A = .ok (.bl true) A := by simp
  rcases w17 h with rfl | rfl | rfl | rfl | rfl | rfl | rfl | rfl | rfl | rfl | rfl | rfl | rfl | rfl | rfl | rfl | rfl <;> simp [m_law_kept, b_law_kept, exW, dFldL, dFldX, List.lookup, e1, e2, ne1, n12, nPV, i12, a1, a2, -newL_t, -dIn_tl]
theorem part_ok (hP : Pl p A) (h : w < 17) (hV : Vk V) : ∃ s B, m_law_part [.ref p, .int (w : Int), V] A = .ok (.str s) B ∧ Ps p A B ∧ Sk s := by
  have pick2 : ∀ (a b : Str) (z : Int), 0 ≤ z → z < 2 → ∃ s, (s = a ∨ s = b) ∧ ∀ Y, dIx (.lst [.str a, .str b]) (.int z) Y = .ok (.str s) Y := fun a b z h0 h1 => by
    have : z = 0 ∨ z = 1 := by omega
    rcases this with rfl | rfl
    · exact ⟨a, .inl rfl, fun _ => rfl⟩
    · exact ⟨b, .inr rfl, fun _ => rfl⟩
  have fin : ∀ {s : Str} {B : List Vi.O}, Ps p A B → b_law_part [some (.ref p), some (.int (w : Int)), some V] A = .ok (.rt (.str s)) B → m_law_part [.ref p, .int (w : Int), V] A = .ok (.str s) B := fun P key => by
    unfold m_law_part
    rw [runB_rt rfl key, P.trim]
  by_cases w1 : w = 1
  · obtain ⟨z, B, z0, z1, t, P⟩ := take_p hP (m := 2) (by decide) (by decide)
    obtain ⟨s, hs, ix⟩ := pick2 "inputs" "wishes" z z0 z1
    subst w1
    refine ⟨s, B, fin P ?_, P, by unfold Sk; rcases hs with rfl | rfl <;> simp⟩
    simp [b_law_part, t, ix, -dIx_l]
  · by_cases w2 : w = 2
    · obtain ⟨z, B, z0, z1, t, P⟩ := take_p hP (m := 3) (by decide) (by decide)
      obtain ⟨s1, hs1, ix1⟩ : ∃ s, (s = Str.ofString "many" ∨ s = Str.ofString "decision" ∨ s = Str.ofString "rows") ∧ ∀ Y, dIx (.lst [.str "many", .str "decision", .str "rows"]) (.int z) Y = .ok (.str s) Y := by
        have : z = 0 ∨ z = 1 ∨ z = 2 := by omega
        rcases this with rfl | rfl | rfl
        · exact ⟨_, .inl rfl, fun _ => rfl⟩
        · exact ⟨_, .inr (.inl rfl), fun _ => rfl⟩
        · exact ⟨_, .inr (.inr rfl), fun _ => rfl⟩
      subst w2
      rcases hV with rfl | ⟨n, _, _, rfl⟩
      · have ix : dIx (.lst [.str "rows", .str s1]) (.int 1) B = .ok (.str s1) B := rfl
        refine ⟨s1, B, fin P ?_, P, by unfold Sk; rcases hs1 with rfl | rfl | rfl <;> simp⟩
        simp [b_law_part, t, ix1, ix, dIs, Vi.isNon, -dIx_l]
      · have ix : dIx (.lst [.str "rows", .str s1]) (.int 0) B = .ok (.str "rows") B := rfl
        refine ⟨"rows", B, fin P ?_, P, by unfold Sk; simp⟩
        simp [b_law_part, t, ix1, ix, dIs, Vi.isNon, -dIx_l]
    · obtain ⟨z, B, z0, z1, t, P⟩ := take_p hP (m := 2) (by decide) (by decide)
      obtain ⟨s, hs, ix⟩ := pick2 "inputs" "steps" z z0 z1
      refine ⟨s, B, fin P ?_, P, by unfold Sk; rcases hs with rfl | rfl <;> simp⟩
      have q1 : ¬ (w : Int) = 1 := by omega
      have q2 : ¬ (w : Int) = 2 := by omega
      generalize (w : Int) = wz at *
      simp [b_law_part, t, ix, q1, q2, -dIx_l]
end
end Lw
namespace Lw
open PySem PySem.Spec L2 Vi Mb
section
variable {w p : Nat} {V : D} {s : Str} {A B : List Vi.O} {σ : Vi.Env}
theorem turn_ok (hP : Pl p A) (h : w < 17) {s0 x3 x4 x5 x6 : Option D} : ∃ y3 y4 y5 y6 B, b_law_1 [s0, some (.ref p), some (.int (w : Int)), x3, x4, x5, x6, none] A = .ok (.nx [s0, some (.ref p), some (.int (w : Int)), y3, y4, y5, y6, none]) B ∧ Pl p B := by
  obtain ⟨M, hM0, hM1, ixM⟩ : ∃ M : Int, 0 < M ∧ M ≤ 400 ∧ ∀ Y, dIx (.lst [.int 400, .int 7]) (.int (if decide (w = 6) then 1 else 0)) Y = .ok (.int M) Y := by
    by_cases q : w = 6
    · exact ⟨7, by decide, by decide, fun Y => by rw [decide_eq_true q]; rfl⟩
    · exact ⟨400, by decide, by decide, fun Y => by rw [decide_eq_false q]; rfl⟩
  obtain ⟨u, A1, u0, u1, t1, P1⟩ := take_p hP hM0 (by omega)
  obtain ⟨j, A2, j0, j1, t2, P2⟩ := take_p P1.pl (m := 3) (by decide) (by decide)
  obtain ⟨V0, hV0, ix0⟩ : ∃ V0, Vk V0 ∧ ∀ Y, dIx (.lst [.non, .int 0, .int (1 + u)]) (.int j) Y = .ok V0 Y := by
    have : j = 0 ∨ j = 1 ∨ j = 2 := by omega
    rcases this with rfl | rfl | rfl
    · exact ⟨_, .inl rfl, fun _ => rfl⟩
    · exact ⟨_, .inr ⟨0, by decide, by decide, rfl⟩, fun _ => rfl⟩
    · exact ⟨_, .inr ⟨1 + u, by omega, by omega, rfl⟩, fun _ => rfl⟩
  obtain ⟨g, A3, g0, g1, t3, P3⟩ := take_p P2.pl (m := 5) (by decide) (by decide)
  obtain ⟨V1, hV1, ix1⟩ : ∃ V1, Vk V1 ∧ ∀ Y, dIx (.lst [.int 13, .int 17, .int 41, .int 256, .int 4001]) (.int g) Y = .ok V1 Y := by
    have : g = 0 ∨ g = 1 ∨ g = 2 ∨ g = 3 ∨ g = 4 := by omega
    rcases this with rfl | rfl | rfl | rfl | rfl
    · exact ⟨_, .inr ⟨13, by decide, by decide, rfl⟩, fun _ => rfl⟩
    · exact ⟨_, .inr ⟨17, by decide, by decide, rfl⟩, fun _ => rfl⟩
    · exact ⟨_, .inr ⟨41, by decide, by decide, rfl⟩, fun _ => rfl⟩
    · exact ⟨_, .inr ⟨256, by decide, by decide, rfl⟩, fun _ => rfl⟩
    · exact ⟨_, .inr ⟨4001, by decide, by decide, rfl⟩, fun _ => rfl⟩
  obtain ⟨b, V, A4, hV, P4, hb1, hb2, sel⟩ : ∃ (b : Bool) (V : D) (A4 : List Vi.O), Vk V ∧ Ps p A A4 ∧ (b = true → V = V1 ∧ A4 = A3) ∧ (b = false → V = V0 ∧ A4 = A2) ∧
      ((decide (w = 5) = false ∧ b = false) ∨ (decide (w = 5) = true ∧ ((dIs V0 .non A2 = .ok (.bl true) A2 ∧ b = true) ∨ (dIs V0 .non A2 = .ok (.bl false) A2 ∧ dLt V0 (.int 13) A2 = .ok (.bl b) A2)))) := by
    by_cases q : w = 5
    · rcases hV0 with rfl | ⟨n, n0, n1, rfl⟩
      · exact ⟨true, V1, A3, hV1, P1.trans (P2.trans P3), fun _ => ⟨rfl, rfl⟩, (fun h => Bool.noConfusion h), .inr ⟨decide_eq_true q, .inl ⟨rfl, rfl⟩⟩⟩
      · by_cases q2 : n < 13
        · exact ⟨true, V1, A3, hV1, P1.trans (P2.trans P3), fun _ => ⟨rfl, rfl⟩, (fun h => Bool.noConfusion h), .inr ⟨decide_eq_true q, .inr ⟨rfl, by show Vi.R.ok (D.bl (decide (n < 13))) A2 = _; rw [decide_eq_true q2]⟩⟩⟩
        · exact ⟨false, _, A2, .inr ⟨n, n0, n1, rfl⟩, P1.trans P2, (fun h => Bool.noConfusion h), fun _ => ⟨rfl, rfl⟩, .inr ⟨decide_eq_true q, .inr ⟨rfl, by show Vi.R.ok (D.bl (decide (n < 13))) A2 = _; rw [decide_eq_false q2]⟩⟩⟩
    · exact ⟨false, V0, A2, hV0, P1.trans P2, (fun h => Bool.noConfusion h), fun _ => ⟨rfl, rfl⟩, .inl ⟨decide_eq_false q, rfl⟩⟩
  obtain ⟨s, A5, t5, P5, hs⟩ := part_ok P4.pl h hV
  have t6 := made_ok (A := A5) (s := s) (V := V) h
  have t7 := sorts_ok (A := A5) (s := s) (V := V) h
  have t8 := kinds_ok (A := A5) (s := s) (V := V) h
  have t9 := kept_ok (A := A5) h hV hs
  have ni : ∀ (k : Nat) Y, dEq (.int (w : Int)) (.int (k : Int)) Y = .ok (.bl (decide (w = k))) Y := fun k Y => by
    simp only [dEq_ii]
    congr 2
    by_cases q : w = k
    · subst q; simp
    · have : ¬ (w : Int) = (k : Int) := by omega
      simp [q, this]
  have n0 : ∀ Y, dEq (.int (w : Int)) (.int 0) Y = .ok (.bl (decide (w = 0))) Y := ni 0
  have n5 : ∀ Y, dEq (.int (w : Int)) (.int 5) Y = .ok (.bl (decide (w = 5))) Y := ni 5
  have n6 : ∀ Y, dEq (.int (w : Int)) (.int 6) Y = .ok (.bl (decide (w = 6))) Y := ni 6
  have n16 : ∀ Y, dEq (.int (w : Int)) (.int 16) Y = .ok (.bl (decide (w = 16))) Y := ni 16
  have fi : ∀ (b : Bool) Y, fInt [.bl b] Y = .ok (.int (if b then 1 else 0)) Y := fun _ _ => rfl
  have a1 : dAdd true (.int 1) (.int u) A1 = .ok (.int (1 + u)) A1 := rfl
  have l2 : newL true [.int 400, .int 7] A = .ok (.lst [.int 400, .int 7]) A := newL_t (by simp)
  have l3 : newL true [.non, .int 0, .int (1 + u)] A1 = .ok (.lst [.non, .int 0, .int (1 + u)]) A1 := newL_t (by simp)
  have l5 : newL true [.int 13, .int 17, .int 41, .int 256, .int 4001] A2 = .ok (.lst [.int 13, .int 17, .int 41, .int 256, .int 4001]) A2 := newL_t (by simp)
  have due : ∀ (a b c d : Bool) Y, newL true [.bl a, .bl b, .bl c, .bl d] Y = .ok (.lst [.bl a, .bl b, .bl c, .bl d]) Y := fun _ _ _ _ _ => newL_t (by simp)
  have r17 : fRange1 [.int 17] A5 = .ok (.fix ((List.range 17).map fun i : Nat => .int (i : Int))) A5 := by rw [fRange1_e (by decide) (by decide), ← rng_0]; rfl
  have cmp : ∀ σ : Vi.Env, (∀ d : D, (σ.set 7 (some d))[2]? = some (some (.int (w : Int)))) → (∀ d : D, (σ.set 7 (some d))[7]? = some (some d)) → lcD (fun _ => True) (tgN 7) mYes (m2 dEq (mVar 7) (mVar 2)) σ ((List.range 17).map fun i : Nat => .int (i : Int)) [] A5 = .ok ((srtB w).map D.bl) A5 := fun σ h2 h7 => by
    rw [lcD_m (ok := fun _ => True) (f := fun i : Nat => D.int (i : Int)) (fun k => D.bl (decide (k = w))) (xs := List.range 17) trivial (by simp) fun k hk => ⟨σ.set 7 (some (.int (k : Int))), tgN_e, by
      have q : dEq (.int (k : Int)) (.int (w : Int)) A5 = .ok (.bl (decide (k = w))) A5 := by
        simp only [dEq_ii]
        congr 2
        by_cases q : k = w
        · subst q; simp
        · have : ¬ (k : Int) = (w : Int) := by omega
          simp [q, this]
      simp [mVar, h2, h7, q]⟩]
    unfold srtB
    rw [List.map_map]
    rfl
  have cmp := cmp [s0, some (.ref p), some (.int (w : Int)), some V, some (.str s), some (exW w s V), some (.lst ((kndB w).map D.bl)), none] (fun _ => rfl) (fun _ => rfl)
  have ls : newL true ((srtB w).map D.bl) A5 = .ok (.lst ((srtB w).map D.bl)) A5 := newL_t (by simp [srtB])
  have ne1 := ne_bl (srtB w) A5
  have ne2 := ne_bl (kndB w) A5
  have kn : (kndB w).map D.bl = if decide (w = 16) then [.bl false, .bl false, .bl false, .bl true] else if decide (w = 0) then [.bl false, .bl false, .bl true, .bl true] else [.bl true, .bl true, .bl false, .bl false] := by
    unfold kndB
    by_cases q0 : w = 0
    · subst q0; rfl
    · by_cases q1 : w = 16
      · subst q1; rfl
      · simp [q0, q1]
  refine ⟨some V, some (.str s), some (exW w s V), some (.lst ((kndB w).map D.bl)), A5, ?_, P5.pl⟩
  clear ni hV hV0 hV1 P1 P2 P3 P4 P5 hs
  unfold b_law_1
  generalize (m2 dEq (mVar 7) (mVar 2)) = MC at *
  generalize hk : (kndB w).map D.bl = KB at *
  generalize (srtB w).map D.bl = SB at *
  generalize exW w s V = EX at *
  generalize (List.range 17).map (fun i : Nat => D.int (i : Int)) = RG at *
  generalize decide (w = 16) = c16 at *
  generalize decide (w = 0) = c0 at *
  generalize decide (w = 5) = c5 at *
  generalize decide (w = 6) = c6 at *
  generalize (1 + u) = u1' at *
  generalize D.int (w : Int) = iw at *
  rcases sel with ⟨e5, eb⟩ | ⟨e5, ⟨ei, eb⟩ | ⟨ei, el⟩⟩
  · subst e5 eb
    obtain ⟨rfl, rfl⟩ := hb2 rfl
    cases c16 <;> cases c0 <;> simp at kn <;> subst kn <;> simp [n0, n5, n6, n16, fi, l2, ixM, t1, a1, l3, t2, ix0, t5, t6, due, t7, r17, cmp, ls, ne1, t8, ne2, t9, wipeD, -newL_t, -dIx_l, -fRange1_e, -dAdd_ii]
  · subst e5 eb
    obtain ⟨rfl, rfl⟩ := hb1 rfl
    cases c16 <;> cases c0 <;> simp at kn <;> subst kn <;> simp [n0, n5, n6, n16, fi, l2, ixM, t1, a1, l3, t2, ix0, ei, l5, t3, ix1, t5, t6, due, t7, r17, cmp, ls, ne1, t8, ne2, t9, wipeD, -newL_t, -dIx_l, -fRange1_e, -dAdd_ii]
  · subst e5
    cases b
    · obtain ⟨rfl, rfl⟩ := hb2 rfl
      cases c16 <;> cases c0 <;> simp at kn <;> subst kn <;> simp [n0, n5, n6, n16, fi, l2, ixM, t1, a1, l3, t2, ix0, ei, el, t5, t6, due, t7, r17, cmp, ls, ne1, t8, ne2, t9, wipeD, -newL_t, -dIx_l, -fRange1_e, -dAdd_ii]
    · obtain ⟨rfl, rfl⟩ := hb1 rfl
      cases c16 <;> cases c0 <;> simp at kn <;> subst kn <;> simp [n0, n5, n6, n16, fi, l2, ixM, t1, a1, l3, t2, ix0, ei, el, l5, t3, ix1, t5, t6, due, t7, r17, cmp, ls, ne1, t8, ne2, t9, wipeD, -newL_t, -dIx_l, -fRange1_e, -dAdd_ii]
theorem law_true (ns : List Int) (h : ns.length ≤ 63) (hb : ∀ z ∈ ns, Builtin.Int.intBits z ≤ 1048576) : ∃ A, m_law [.scr (ns.map D.int)] [] = .ok (.bl true) A := by
  obtain ⟨ra, rb, e0⟩ := pool_ok (ns := ns) (k := 0) (A := []) (by decide) (by decide)
  have P0 : Pl 0 ([] ++ [Vi.O.lst [.int ra, .int rb]]) := ⟨ra, rb, by simp⟩
  obtain ⟨σ', Z, e, z2, z3, z4, z5, z6, rfl, _⟩ := forD_p (ok := fun _ => True) (tg := tgN 2) (body := b_law_1) (f := fun i : Nat => .int (i : Int)) (xs := List.range 17) (σ := [some (.scr (ns.map D.int)), some (.ref 0), none, none, none, none, none, none]) (A := [] ++ [Vi.O.lst [.int ra, .int rb]])
    (fun p σ A => ∃ (z2 z3 z4 z5 z6 : Option D), σ = [some (.scr (ns.map D.int)), some (.ref 0), z2, z3, z4, z5, z6, none] ∧ Pl 0 A) (fun _ _ _ _ => trivial) ⟨_, _, _, _, _, rfl, P0⟩
    fun p k q e σ A ⟨z2, z3, z4, z5, z6, hσ, hP⟩ => by
      subst hσ
      have hk : k < 17 := List.mem_range.mp (by rw [e]; simp)
      obtain ⟨y3, y4, y5, y6, B, e, hB⟩ := turn_ok hP hk (s0 := some (.scr (ns.map D.int))) (x3 := z3) (x4 := z4) (x5 := z5) (x6 := z6)
      exact ⟨_, _, _, B, tgN_e, .inl e, _, _, _, _, _, rfl, hB⟩
  have r17 : fRange1 [.int 17] ([] ++ [Vi.O.lst [.int ra, .int rb]]) = .ok (.fix ((List.range 17).map fun i : Nat => .int (i : Int))) ([] ++ [Vi.O.lst [.int ra, .int rb]]) := by rw [fRange1_e (by decide) (by decide), ← rng_0]; rfl
  have e0 : m_law_pool [.scr (ns.map D.int), .int 0] [] = .ok (.ref 0) ([] ++ [Vi.O.lst [.int ra, .int rb]]) := e0
  have key : b_law [some (.scr (ns.map D.int)), none, none, none, none, none, none, none] [] = .ok (.rt (.bl true)) Z := by
    unfold b_law
    generalize b_law_1 = BL at *
    generalize (List.range 17).map (fun i : Nat => D.int (i : Int)) = RG at *
    generalize ([] : List Vi.O) ++ [Vi.O.lst [.int ra, .int rb]] = A0 at *
    generalize ns.map D.int = NS at *
    simp [e0, r17, e, -fRange1_e]
  obtain ⟨B, e⟩ := trimR_some (A := []) (A' := Z) (d := .bl true)
  exact ⟨B, by unfold m_law; rw [runB_rt rfl key, e]⟩
end
end Lw
end
section
namespace Vi
open PySem PySem.Spec PyProof.Rows L2 He
theorem walkE {l : PySem.W.OpenLaw} {n k : Nat} {q : Program} {loose : List Str} {XP : (Str → Option Value) → Heap → Prop} {YP : World → Heap → Prop} {d : DefRec} {x : Str} {m : List D → List O → R D}
    (hn : l.most = some n) (hn2 : n ≤ sizeLine) (hdf : d.params.defaults = []) (hr : Room k callerA)
    (F : ∀ (w : World) (mg : Str → Option Value) (fa : Addr) (h : Heap), YP w h → h.Ns mainGlobals mg → mg d.name = some (.ref fa) →
      ∃ (K : PySem.W.Frag) (c : String → Addr) (fd : FuncData), K.In h ∧ (∀ (s : Shared) (u : Value), BindsTo s fd ⟨[u], []⟩ [(x, u)]) ∧
        ∀ base : Heap, K.In base → base.Ns mainGlobals mg → FnG l.prog w K mg base k fa fd [x] (spG ⟨K, c, w⟩ 1 m))
    (law : ∀ ns : List Int, ns.length ≤ n → (∀ z ∈ ns, Builtin.Int.intBits z ≤ 1048576) → ∃ A, m [.scr (ns.map D.int)] [] = .ok (.bl true) A) :
    PySem.W.WalkO q loose XP YP l.row.toRowW d [] (fun f vs => PySem.call f vs) := by
  refine Att.attach_callB hn hdf fun w s₀ s₁ mg mb fa o pm cd doc a vs ns G Y ho hd hcd hmg hobj hints hlen hbits hg => ?_
  obtain ⟨K, c, fd, KX, hb, hF⟩ := F w mg fa _ Y G.T.g hmg
  obtain ⟨A, hA⟩ := law ns hlen hbits
  exact law_callG KX G.T.g G.T.b G.T.builtins G.T.nolimit hg hobj hints (Nat.le_trans hlen hn2) hr hF hb fun H hO hS => sp_law hS hA
section
variable {ck : List (PySem.W.Frag → Bool)} {fn : List DefD} {dx : List (Str × List Str)} {w : World} {K : PySem.W.Frag}
theorem ck_of (c : obsV ck fn dx K = valHd fn dx w) (i : Nat) {f : PySem.W.Frag → Bool} (h : ck[i]? = some f) : f K = true := by
  have c1 := (ba (show ((ck.all fun f => f K) && fn.all fun d => d.ok K) = true from congrArg (fun z : AlV => z.1) c)).1
  exact List.all_eq_true.mp c1 f (List.mem_of_getElem? h)
theorem def_of (c : obsV ck fn dx K = valHd fn dx w) (i : Nat) {d : DefD} (h : fn[i]? = some d) :
    ∃ (oc : Value) (od : Option Addr) (dV kV doc pm : Value) (an : Option Addr) (cdv ct : Value) (osl : Array (Option Value)),
      K.lookup (fAd K d.at_) = some ⟨oc, od, .func (PySem.W.fnOf d.name d.qual d.params d.body d.scope dV kV doc pm an cdv ct), osl⟩ ∧ PySem.W.codeIn K cdv d.qual = true ∧ PySem.W.keepIn K (.ref (fAd K d.at_)) = true ∧ dflB K dV (d.dvs K) = true := by
  have c2 := (ba (show ((ck.all fun f => f K) && fn.all fun d => d.ok K) = true from congrArg (fun z : AlV => z.1) c)).2
  have e : fn.map (fun d => fnW K d.at_) = fn.map DefD.val := congrArg (fun z : AlV => z.2.1) c
  have e2 : (fn.map fun d => fnW K d.at_)[i]? = (fn.map DefD.val)[i]? := by rw [e]
  rw [List.getElem?_map, List.getElem?_map, h] at e2
  have e : fnW K d.at_ = d.val := Option.some.inj e2
  obtain ⟨kp, c2⟩ := ba (List.all_eq_true.mp c2 d (List.mem_of_getElem? h))
  unfold fnW at e
  cases q : K.lookup (fAd K d.at_) with
  | none =>
    rw [q] at c2
    cases c2
  | some o =>
    obtain ⟨oc, od, dt, osl⟩ := o
    rw [q] at c2 e
    cases dt with
    | func fd =>
      obtain ⟨n1, n2, n3, n4, n5, n6, n7, n8, n9, n10, n11, n12, n13, n14, n15⟩ := fd
      have e2 : (some (n1, n2, n3, n4, n5, n6, n7, n15) : FnW) = some (d.name, d.qual, d.params, .stmts d.body, d.scope, mainGlobals, [], builtinsNs) := e
      simp only [Option.some.injEq, Prod.mk.injEq] at e2
      obtain ⟨h1, h2, h3, h4, h5, h6, h7, h8⟩ := e2
      subst h1 h2 h3 h4 h5 h6 h7 h8
      have c3 : (PySem.W.codeIn K n13 d.qual && (dflB K n8 (d.dvs K) && kwdB K n9 (d.kws K))) = true := c2
      obtain ⟨k1, k2⟩ := ba c3
      obtain ⟨k3, k4⟩ := ba k2
      exact ⟨_, _, _, _, _, _, _, _, _, _, rfl, k1, kp, k3⟩
    | _ => cases c2
end
theorem dfl_none {K : PySem.W.Frag} {dV : Value} (h : dflB K dV [] = true) : dV = .none := by
  cases dV with
  | none => rfl
  | _ => cases h
theorem ckC_ok {C : PySem.W.Frag → Addr} {m : Str} {b : String} {K : PySem.W.Frag} (h : ckC C m b K = true) : PySem.W.findCls K (.ref (C K)) (.type "type") m = some (.val (.builtin b)) := by
  unfold ckC at h
  split at h
  · rename_i n e
    rw [of_decide_eq_true h] at e
    exact e
  · cases h
theorem ckX_ok {K : PySem.W.Frag} {C : Addr} {chain : List Value} {newId : String} (q : ckX C chain newId K = true) :
    ∃ (nm qn : Str) (N : Addr) (bs : List Value) (sn : List Str) (sub : List Value) (ab : Bool) (col : Option Bool) (dd : Option Addr) (k0 k1 k2 k3 k5 : Option Value), K.lookup C = some (excClassObj nm qn C N bs chain true sn sub ab col dd k0 k1 k2 k3 k5 newId) := by
  unfold ckX at q
  split at q
  · rename_i dd cd sl ho
    split at q
    · rename_i C' bm k0 k1 k2 k3 n k5 hm hs
      obtain ⟨q1, q⟩ := ba q
      obtain ⟨q2, q⟩ := ba q
      obtain ⟨q3, q⟩ := ba q
      obtain ⟨q4, q5⟩ := ba q
      have e1 := beq_iff_eq.mp q1
      have e2 := beq_iff_eq.mp q2
      have e5 := of_decide_eq_true q5
      subst e1 e2 e5
      obtain ⟨nm, bs, mro, ns, qn, hd, sn, sub, ab, col, del⟩ := cd
      dsimp only at hm q3 q4
      have q3 : del = false := by simpa using q3
      subst hm q3 q4
      have hsl : sl = #[k0, k1, k2, k3, some (.builtin n), k5] := by
        obtain ⟨l⟩ := sl
        simp only at hs
        rw [hs]
      subst hsl
      exact ⟨nm, qn, ns, bs, sn, sub, ab, col, dd, k0, k1, k2, k3, k5, ho⟩
    · cases q
  · cases q
end Vi
end
section
namespace Vi
open PySem PySem.Spec L2 He
end Vi
end
section
namespace Lw
open PySem PySem.Spec PyProof.Rows L2 Vi Mb He
set_option maxHeartbeats 0 in
theorem hFacts {l : PySem.W.OpenLaw} {w : World} {K : PySem.W.Frag} {h : Heap} {mg : Str → Option Value} {fa : Addr} (X : K.In h) (G : h.Ns mainGlobals mg) (hfa : mg "law" = some (.ref fa)) (cc : obsV hCk hFn hDx K = valHd hFn hDx w) :
    ∃ (c : String → Addr) (fd : FuncData), (∀ (s : Shared) (v : Value), BindsTo s fd ⟨[v], []⟩ [("_law_script", v)]) ∧ ∀ base : Heap, K.In base → base.Ns mainGlobals mg → FnG l.prog w K mg base 4 fa fd ["_law_script"] (spG ⟨K, c, w⟩ 1 m_law) := by
  have xv0 := ckC_ok (ck_of (f := ckC (fun K => (ga K "AloneError")) "__init__" "ValueError.__init__") cc 7 rfl)
  obtain ⟨_, _, _, _, _, _, _, _, _, _, _, _, _, _, xl1⟩ := ckX_ok (ck_of (f := fun K => ckX (ga K "NoName") [.type "KeyError", .type "LookupError", .type "Exception", .type "BaseException", .type "object"] "LookupError.__new__" K) cc 16 rfl)
  obtain ⟨ocx1, odx1, dVx1, kVx1, dcx1, pmx1, anx1, cdx1, ctx1, slx1, lx1, cx1, kx1, dx1⟩ := def_of cc 0 (d := hd_0) rfl
  have ex1 := dfl_none dx1
  subst ex1
  obtain ⟨_, _, _, _, _, _, _, _, _, _, _, _, _, _, xl2⟩ := ckX_ok (ck_of (f := fun K => ckX (ga K "NoField") [.ref (ga K "AloneError"), .type "ValueError", .type "Exception", .type "BaseException", .type "object"] "ValueError.__new__" K) cc 30 rfl)
  obtain ⟨ocx2, odx2, dVx2, kVx2, dcx2, pmx2, anx2, cdx2, ctx2, slx2, lx2, cx2, kx2, dx2⟩ := def_of cc 1 (d := hd_1) rfl
  have ex2 := dfl_none dx2
  subst ex2
  obtain ⟨_, _, _, _, _, _, _, _, _, _, _, _, _, _, xl3⟩ := ckX_ok (ck_of (f := fun K => ckX (ga K "NoCase") [.ref (ga K "AloneError"), .type "ValueError", .type "Exception", .type "BaseException", .type "object"] "ValueError.__new__" K) cc 45 rfl)
  obtain ⟨ocx3, odx3, dVx3, kVx3, dcx3, pmx3, anx3, cdx3, ctx3, slx3, lx3, cx3, kx3, dx3⟩ := def_of cc 2 (d := hd_2) rfl
  have ex3 := dfl_none dx3
  subst ex3
  obtain ⟨_, _, _, _, _, _, _, _, _, _, _, _, _, _, xl4⟩ := ckX_ok (ck_of (f := fun K => ckX (ga K "NoBook") [.ref (ga K "AloneError"), .type "ValueError", .type "Exception", .type "BaseException", .type "object"] "ValueError.__new__" K) cc 60 rfl)
  obtain ⟨ocx4, odx4, dVx4, kVx4, dcx4, pmx4, anx4, cdx4, ctx4, slx4, lx4, cx4, kx4, dx4⟩ := def_of cc 3 (d := hd_3) rfl
  have ex4 := dfl_none dx4
  subst ex4
  obtain ⟨_, _, _, _, _, _, _, _, _, _, _, _, _, _, xl5⟩ := ckX_ok (ck_of (f := fun K => ckX (ga K "NoText") [.ref (ga K "AloneError"), .type "ValueError", .type "Exception", .type "BaseException", .type "object"] "ValueError.__new__" K) cc 74 rfl)
  obtain ⟨ocx5, odx5, dVx5, kVx5, dcx5, pmx5, anx5, cdx5, ctx5, slx5, lx5, cx5, kx5, dx5⟩ := def_of cc 4 (d := hd_4) rfl
  have ex5 := dfl_none dx5
  subst ex5
  obtain ⟨_, _, _, _, _, _, _, _, _, _, _, _, _, _, xl6⟩ := ckX_ok (ck_of (f := fun K => ckX (ga K "TooMany") [.ref (ga K "AloneError"), .type "ValueError", .type "Exception", .type "BaseException", .type "object"] "ValueError.__new__" K) cc 88 rfl)
  obtain ⟨ocx6, odx6, dVx6, kVx6, dcx6, pmx6, anx6, cdx6, ctx6, slx6, lx6, cx6, kx6, dx6⟩ := def_of cc 5 (d := hd_5) rfl
  have ex6 := dfl_none dx6
  subst ex6
  obtain ⟨_, _, _, _, _, _, _, _, _, _, _, _, _, _, xl7⟩ := ckX_ok (ck_of (f := fun K => ckX (ga K "NotOnce") [.ref (ga K "AloneError"), .type "ValueError", .type "Exception", .type "BaseException", .type "object"] "ValueError.__new__" K) cc 102 rfl)
  obtain ⟨ocx7, odx7, dVx7, kVx7, dcx7, pmx7, anx7, cdx7, ctx7, slx7, lx7, cx7, kx7, dx7⟩ := def_of cc 6 (d := hd_6) rfl
  have ex7 := dfl_none dx7
  subst ex7
  obtain ⟨_, _, _, _, _, _, _, _, _, _, _, _, _, _, xl8⟩ := ckX_ok (ck_of (f := fun K => ckX (ga K "NoProgram") [.ref (ga K "AloneError"), .type "ValueError", .type "Exception", .type "BaseException", .type "object"] "ValueError.__new__" K) cc 116 rfl)
  obtain ⟨ocx8, odx8, dVx8, kVx8, dcx8, pmx8, anx8, cdx8, ctx8, slx8, lx8, cx8, kx8, dx8⟩ := def_of cc 7 (d := hd_7) rfl
  have ex8 := dfl_none dx8
  subst ex8
  obtain ⟨oc0, od0, dV0, kV0, dc0, pm0, an0, cd0, ct0, sl0, l0, c0, k0, d0⟩ := def_of cc 8 (d := hd_8) rfl
  have e0 := dfl_none d0
  subst e0
  obtain ⟨oc1, od1, dV1, kV1, dc1, pm1, an1, cd1, ct1, sl1, l1, c1, k1, d1⟩ := def_of cc 9 (d := hd_9) rfl
  have e1 := dfl_none d1
  subst e1
  obtain ⟨oc2, od2, dV2, kV2, dc2, pm2, an2, cd2, ct2, sl2, l2, c2, k2, d2⟩ := def_of cc 10 (d := hd_10) rfl
  have e2 := dfl_none d2
  subst e2
  obtain ⟨oc3, od3, dV3, kV3, dc3, pm3, an3, cd3, ct3, sl3, l3, c3, k3, d3⟩ := def_of cc 11 (d := hd_11) rfl
  have e3 := dfl_none d3
  subst e3
  obtain ⟨oc4, od4, dV4, kV4, dc4, pm4, an4, cd4, ct4, sl4, l4, c4, k4, d4⟩ := def_of cc 12 (d := hd_12) rfl
  have e4 := dfl_none d4
  subst e4
  obtain ⟨oc5, od5, dV5, kV5, dc5, pm5, an5, cd5, ct5, sl5, l5, c5, k5, d5⟩ := def_of cc 13 (d := hd_13) rfl
  have e5 := dfl_none d5
  subst e5
  obtain ⟨oc6, od6, dV6, kV6, dc6, pm6, an6, cd6, ct6, sl6, l6, c6, k6, d6⟩ := def_of cc 14 (d := hd_14) rfl
  have e6 := dfl_none d6
  subst e6
  obtain ⟨oc7, od7, dV7, kV7, dc7, pm7, an7, cd7, ct7, sl7, l7, c7, k7, d7⟩ := def_of cc 15 (d := hd_15) rfl
  have e7 := dfl_none d7
  subst e7
  exact all_mk (X0 := (ga K "AloneError")) (X1 := (ga K "NoName")) (X2 := (ga K "NoField")) (X3 := (ga K "NoCase")) (X4 := (ga K "NoBook")) (X5 := (ga K "NoText")) (X6 := (ga K "TooMany")) (X7 := (ga K "NotOnce")) (X8 := (ga K "NoProgram")) (X9 := (ga K "NoRow")) (X10 := (ga K "NoWish")) (X11 := (ga K "NoLeaf")) (X12 := (ga K "NoWord")) (X13 := (ga K "NoNumbers")) (X14 := (ga K "NoWhen")) (X15 := (ga K "NoChange")) (X16 := (ga K "NoLine")) (X17 := (ga K "NoKeeper")) (fx1 := (ma K (ga K "NoName") "__init__")) (fx2 := (ma K (ga K "NoField") "__init__")) (fx3 := (ma K (ga K "NoCase") "__init__")) (fx4 := (ma K (ga K "NoBook") "__init__")) (fx5 := (ma K (ga K "NoText") "__init__")) (fx6 := (ma K (ga K "TooMany") "__init__")) (fx7 := (ma K (ga K "NotOnce") "__init__")) (fx8 := (ma K (ga K "NoProgram") "__init__")) (f0 := (ga K "_law_pool")) (f1 := (ga K "_law_take")) (f2 := (ga K "_law_made")) (f3 := (ga K "_law_part")) (f4 := (ga K "_law_sorts")) (f5 := (ga K "_law_kinds")) (f6 := (ga K "_law_kept")) (f7 := (ga K "law")) X G hfa
    (of_decide_eq_true (ck_of cc 0 rfl))
    (of_decide_eq_true (ck_of cc 1 rfl))
    (of_decide_eq_true (ck_of cc 2 rfl))
    (of_decide_eq_true (ck_of cc 3 rfl))
    (of_decide_eq_true (ck_of cc 4 rfl))
    (of_decide_eq_true (ck_of cc 5 rfl))
    (of_decide_eq_true (ck_of cc 6 rfl))
    xv0
    (of_decide_eq_true (ck_of cc 8 rfl))
    (of_decide_eq_true (ck_of cc 9 rfl))
    (of_decide_eq_true (ck_of cc 10 rfl))
    (of_decide_eq_true (ck_of cc 11 rfl))
    (of_decide_eq_true (ck_of cc 12 rfl))
    (of_decide_eq_true (ck_of cc 13 rfl))
    (of_decide_eq_true (ck_of cc 14 rfl))
    (of_decide_eq_true (ck_of cc 15 rfl))
    xl1
    (of_decide_eq_true (ck_of cc 17 rfl))
    (of_decide_eq_true (ck_of cc 18 rfl))
    (of_decide_eq_true (ck_of cc 19 rfl))
    (of_decide_eq_true (ck_of cc 20 rfl))
    lx1
    cx1
    kx1
    (of_decide_eq_true (ck_of cc 21 rfl))
    (of_decide_eq_true (ck_of cc 22 rfl))
    (of_decide_eq_true (ck_of cc 23 rfl))
    (of_decide_eq_true (ck_of cc 24 rfl))
    (of_decide_eq_true (ck_of cc 25 rfl))
    (of_decide_eq_true (ck_of cc 26 rfl))
    (of_decide_eq_true (ck_of cc 27 rfl))
    (of_decide_eq_true (ck_of cc 28 rfl))
    (of_decide_eq_true (ck_of cc 29 rfl))
    xl2
    (of_decide_eq_true (ck_of cc 31 rfl))
    (of_decide_eq_true (ck_of cc 32 rfl))
    (of_decide_eq_true (ck_of cc 33 rfl))
    (of_decide_eq_true (ck_of cc 34 rfl))
    lx2
    cx2
    kx2
    (of_decide_eq_true (ck_of cc 35 rfl))
    (of_decide_eq_true (ck_of cc 36 rfl))
    (of_decide_eq_true (ck_of cc 37 rfl))
    (of_decide_eq_true (ck_of cc 38 rfl))
    (of_decide_eq_true (ck_of cc 39 rfl))
    (of_decide_eq_true (ck_of cc 40 rfl))
    (of_decide_eq_true (ck_of cc 41 rfl))
    (of_decide_eq_true (ck_of cc 42 rfl))
    (of_decide_eq_true (ck_of cc 43 rfl))
    (of_decide_eq_true (ck_of cc 44 rfl))
    xl3
    (of_decide_eq_true (ck_of cc 46 rfl))
    (of_decide_eq_true (ck_of cc 47 rfl))
    (of_decide_eq_true (ck_of cc 48 rfl))
    (of_decide_eq_true (ck_of cc 49 rfl))
    lx3
    cx3
    kx3
    (of_decide_eq_true (ck_of cc 50 rfl))
    (of_decide_eq_true (ck_of cc 51 rfl))
    (of_decide_eq_true (ck_of cc 52 rfl))
    (of_decide_eq_true (ck_of cc 53 rfl))
    (of_decide_eq_true (ck_of cc 54 rfl))
    (of_decide_eq_true (ck_of cc 55 rfl))
    (of_decide_eq_true (ck_of cc 56 rfl))
    (of_decide_eq_true (ck_of cc 57 rfl))
    (of_decide_eq_true (ck_of cc 58 rfl))
    (of_decide_eq_true (ck_of cc 59 rfl))
    xl4
    (of_decide_eq_true (ck_of cc 61 rfl))
    (of_decide_eq_true (ck_of cc 62 rfl))
    (of_decide_eq_true (ck_of cc 63 rfl))
    (of_decide_eq_true (ck_of cc 64 rfl))
    lx4
    cx4
    kx4
    (of_decide_eq_true (ck_of cc 65 rfl))
    (of_decide_eq_true (ck_of cc 66 rfl))
    (of_decide_eq_true (ck_of cc 67 rfl))
    (of_decide_eq_true (ck_of cc 68 rfl))
    (of_decide_eq_true (ck_of cc 69 rfl))
    (of_decide_eq_true (ck_of cc 70 rfl))
    (of_decide_eq_true (ck_of cc 71 rfl))
    (of_decide_eq_true (ck_of cc 72 rfl))
    (of_decide_eq_true (ck_of cc 73 rfl))
    xl5
    (of_decide_eq_true (ck_of cc 75 rfl))
    (of_decide_eq_true (ck_of cc 76 rfl))
    (of_decide_eq_true (ck_of cc 77 rfl))
    (of_decide_eq_true (ck_of cc 78 rfl))
    lx5
    cx5
    kx5
    (of_decide_eq_true (ck_of cc 79 rfl))
    (of_decide_eq_true (ck_of cc 80 rfl))
    (of_decide_eq_true (ck_of cc 81 rfl))
    (of_decide_eq_true (ck_of cc 82 rfl))
    (of_decide_eq_true (ck_of cc 83 rfl))
    (of_decide_eq_true (ck_of cc 84 rfl))
    (of_decide_eq_true (ck_of cc 85 rfl))
    (of_decide_eq_true (ck_of cc 86 rfl))
    (of_decide_eq_true (ck_of cc 87 rfl))
    xl6
    (of_decide_eq_true (ck_of cc 89 rfl))
    (of_decide_eq_true (ck_of cc 90 rfl))
    (of_decide_eq_true (ck_of cc 91 rfl))
    (of_decide_eq_true (ck_of cc 92 rfl))
    lx6
    cx6
    kx6
    (of_decide_eq_true (ck_of cc 93 rfl))
    (of_decide_eq_true (ck_of cc 94 rfl))
    (of_decide_eq_true (ck_of cc 95 rfl))
    (of_decide_eq_true (ck_of cc 96 rfl))
    (of_decide_eq_true (ck_of cc 97 rfl))
    (of_decide_eq_true (ck_of cc 98 rfl))
    (of_decide_eq_true (ck_of cc 99 rfl))
    (of_decide_eq_true (ck_of cc 100 rfl))
    (of_decide_eq_true (ck_of cc 101 rfl))
    xl7
    (of_decide_eq_true (ck_of cc 103 rfl))
    (of_decide_eq_true (ck_of cc 104 rfl))
    (of_decide_eq_true (ck_of cc 105 rfl))
    (of_decide_eq_true (ck_of cc 106 rfl))
    lx7
    cx7
    kx7
    (of_decide_eq_true (ck_of cc 107 rfl))
    (of_decide_eq_true (ck_of cc 108 rfl))
    (of_decide_eq_true (ck_of cc 109 rfl))
    (of_decide_eq_true (ck_of cc 110 rfl))
    (of_decide_eq_true (ck_of cc 111 rfl))
    (of_decide_eq_true (ck_of cc 112 rfl))
    (of_decide_eq_true (ck_of cc 113 rfl))
    (of_decide_eq_true (ck_of cc 114 rfl))
    (of_decide_eq_true (ck_of cc 115 rfl))
    xl8
    (of_decide_eq_true (ck_of cc 117 rfl))
    (of_decide_eq_true (ck_of cc 118 rfl))
    (of_decide_eq_true (ck_of cc 119 rfl))
    (of_decide_eq_true (ck_of cc 120 rfl))
    lx8
    cx8
    kx8
    (of_decide_eq_true (ck_of cc 121 rfl))
    (of_decide_eq_true (ck_of cc 122 rfl))
    (of_decide_eq_true (ck_of cc 123 rfl))
    (of_decide_eq_true (ck_of cc 124 rfl))
    (of_decide_eq_true (ck_of cc 125 rfl))
    (of_decide_eq_true (ck_of cc 126 rfl))
    (of_decide_eq_true (ck_of cc 127 rfl))
    (of_decide_eq_true (ck_of cc 128 rfl))
    (of_decide_eq_true (ck_of cc 129 rfl))
    (of_decide_eq_true (ck_of cc 130 rfl))
    (of_decide_eq_true (ck_of cc 131 rfl))
    (of_decide_eq_true (ck_of cc 132 rfl))
    (of_decide_eq_true (ck_of cc 133 rfl))
    (of_decide_eq_true (ck_of cc 134 rfl))
    (of_decide_eq_true (ck_of cc 135 rfl))
    (of_decide_eq_true (ck_of cc 136 rfl))
    (of_decide_eq_true (ck_of cc 137 rfl))
    (of_decide_eq_true (ck_of cc 138 rfl))
    (of_decide_eq_true (ck_of cc 139 rfl))
    (of_decide_eq_true (ck_of cc 140 rfl))
    (of_decide_eq_true (ck_of cc 141 rfl))
    (of_decide_eq_true (ck_of cc 142 rfl))
    (of_decide_eq_true (ck_of cc 143 rfl))
    (of_decide_eq_true (ck_of cc 144 rfl))
    (of_decide_eq_true (ck_of cc 145 rfl))
    (of_decide_eq_true (ck_of cc 146 rfl))
    (of_decide_eq_true (ck_of cc 147 rfl))
    (of_decide_eq_true (ck_of cc 148 rfl))
    (of_decide_eq_true (ck_of cc 149 rfl))
    (of_decide_eq_true (ck_of cc 150 rfl))
    (of_decide_eq_true (ck_of cc 151 rfl))
    (of_decide_eq_true (ck_of cc 152 rfl))
    (of_decide_eq_true (ck_of cc 153 rfl))
    (of_decide_eq_true (ck_of cc 154 rfl))
    (of_decide_eq_true (ck_of cc 155 rfl))
    (of_decide_eq_true (ck_of cc 156 rfl))
    (of_decide_eq_true (ck_of cc 157 rfl))
    (of_decide_eq_true (ck_of cc 158 rfl))
    (of_decide_eq_true (ck_of cc 159 rfl))
    (of_decide_eq_true (ck_of cc 160 rfl))
    (of_decide_eq_true (ck_of cc 161 rfl))
    (of_decide_eq_true (ck_of cc 162 rfl))
    (of_decide_eq_true (ck_of cc 163 rfl))
    (of_decide_eq_true (ck_of cc 164 rfl))
    (of_decide_eq_true (ck_of cc 165 rfl))
    (of_decide_eq_true (ck_of cc 166 rfl))
    (of_decide_eq_true (ck_of cc 167 rfl))
    (of_decide_eq_true (ck_of cc 168 rfl))
    (of_decide_eq_true (ck_of cc 169 rfl))
    (of_decide_eq_true (ck_of cc 170 rfl))
    (of_decide_eq_true (ck_of cc 171 rfl))
    (of_decide_eq_true (ck_of cc 172 rfl))
    (of_decide_eq_true (ck_of cc 173 rfl))
    (of_decide_eq_true (ck_of cc 174 rfl))
    (of_decide_eq_true (ck_of cc 175 rfl))
    (of_decide_eq_true (ck_of cc 176 rfl))
    (of_decide_eq_true (ck_of cc 177 rfl))
    (of_decide_eq_true (ck_of cc 178 rfl))
    (of_decide_eq_true (ck_of cc 179 rfl))
    (of_decide_eq_true (ck_of cc 180 rfl))
    (of_decide_eq_true (ck_of cc 181 rfl))
    (of_decide_eq_true (ck_of cc 182 rfl))
    (of_decide_eq_true (ck_of cc 183 rfl))
    (of_decide_eq_true (ck_of cc 184 rfl))
    (of_decide_eq_true (ck_of cc 185 rfl))
    (of_decide_eq_true (ck_of cc 186 rfl))
    (of_decide_eq_true (ck_of cc 187 rfl))
    (of_decide_eq_true (ck_of cc 188 rfl))
    (of_decide_eq_true (ck_of cc 189 rfl))
    (of_decide_eq_true (ck_of cc 190 rfl))
    (of_decide_eq_true (ck_of cc 191 rfl))
    (of_decide_eq_true (ck_of cc 192 rfl))
    (of_decide_eq_true (ck_of cc 193 rfl))
    (of_decide_eq_true (ck_of cc 194 rfl))
    (of_decide_eq_true (ck_of cc 195 rfl))
    (of_decide_eq_true (ck_of cc 196 rfl))
    (of_decide_eq_true (ck_of cc 197 rfl))
    (of_decide_eq_true (ck_of cc 198 rfl))
    (of_decide_eq_true (ck_of cc 199 rfl))
    (of_decide_eq_true (ck_of cc 200 rfl))
    (of_decide_eq_true (ck_of cc 201 rfl))
    (of_decide_eq_true (ck_of cc 202 rfl))
    (of_decide_eq_true (ck_of cc 203 rfl))
    (of_decide_eq_true (ck_of cc 204 rfl))
    (of_decide_eq_true (ck_of cc 205 rfl))
    (of_decide_eq_true (ck_of cc 206 rfl))
    (of_decide_eq_true (ck_of cc 207 rfl))
    (of_decide_eq_true (ck_of cc 208 rfl))
    (of_decide_eq_true (ck_of cc 209 rfl))
    (of_decide_eq_true (ck_of cc 210 rfl))
    (of_decide_eq_true (ck_of cc 211 rfl))
    (of_decide_eq_true (ck_of cc 212 rfl))
    (of_decide_eq_true (ck_of cc 213 rfl))
    (of_decide_eq_true (ck_of cc 214 rfl))
    (of_decide_eq_true (ck_of cc 215 rfl))
    (of_decide_eq_true (ck_of cc 216 rfl))
    (of_decide_eq_true (ck_of cc 217 rfl))
    (of_decide_eq_true (ck_of cc 218 rfl))
    (of_decide_eq_true (ck_of cc 219 rfl))
    (of_decide_eq_true (ck_of cc 220 rfl))
    (of_decide_eq_true (ck_of cc 221 rfl))
    (of_decide_eq_true (ck_of cc 222 rfl))
    (of_decide_eq_true (ck_of cc 223 rfl))
    (of_decide_eq_true (ck_of cc 224 rfl))
    (of_decide_eq_true (ck_of cc 225 rfl))
    (of_decide_eq_true (ck_of cc 226 rfl))
    (of_decide_eq_true (ck_of cc 227 rfl))
    (of_decide_eq_true (ck_of cc 228 rfl))
    (of_decide_eq_true (ck_of cc 229 rfl))
    (of_decide_eq_true (ck_of cc 230 rfl))
    (of_decide_eq_true (ck_of cc 231 rfl))
    (of_decide_eq_true (ck_of cc 232 rfl))
    (of_decide_eq_true (ck_of cc 233 rfl))
    (of_decide_eq_true (ck_of cc 234 rfl))
    (of_decide_eq_true (ck_of cc 235 rfl))
    (of_decide_eq_true (ck_of cc 236 rfl))
    (of_decide_eq_true (ck_of cc 237 rfl))
    (of_decide_eq_true (ck_of cc 238 rfl))
    (of_decide_eq_true (ck_of cc 239 rfl))
    (of_decide_eq_true (ck_of cc 240 rfl))
    (of_decide_eq_true (ck_of cc 241 rfl))
    (of_decide_eq_true (ck_of cc 242 rfl))
    (of_decide_eq_true (ck_of cc 243 rfl))
    (of_decide_eq_true (ck_of cc 244 rfl))
    (of_decide_eq_true (ck_of cc 245 rfl))
    (of_decide_eq_true (ck_of cc 246 rfl))
    (of_decide_eq_true (ck_of cc 247 rfl))
    (of_decide_eq_true (ck_of cc 248 rfl))
    (of_decide_eq_true (ck_of cc 249 rfl))
    (of_decide_eq_true (ck_of cc 250 rfl))
    (of_decide_eq_true (ck_of cc 251 rfl))
    (of_decide_eq_true (ck_of cc 252 rfl))
    (of_decide_eq_true (ck_of cc 253 rfl))
    (of_decide_eq_true (ck_of cc 254 rfl))
    (of_decide_eq_true (ck_of cc 255 rfl))
    (of_decide_eq_true (ck_of cc 256 rfl))
    (of_decide_eq_true (ck_of cc 257 rfl))
    (of_decide_eq_true (ck_of cc 258 rfl))
    (of_decide_eq_true (ck_of cc 259 rfl))
    (of_decide_eq_true (ck_of cc 260 rfl))
    (of_decide_eq_true (ck_of cc 261 rfl))
    (of_decide_eq_true (ck_of cc 262 rfl))
    (of_decide_eq_true (ck_of cc 263 rfl))
    (of_decide_eq_true (ck_of cc 264 rfl))
    (of_decide_eq_true (ck_of cc 265 rfl))
    (of_decide_eq_true (ck_of cc 266 rfl))
    (of_decide_eq_true (ck_of cc 267 rfl))
    (of_decide_eq_true (ck_of cc 268 rfl))
    (of_decide_eq_true (ck_of cc 269 rfl))
    (of_decide_eq_true (ck_of cc 270 rfl))
    (of_decide_eq_true (ck_of cc 271 rfl))
    (of_decide_eq_true (ck_of cc 272 rfl))
    (of_decide_eq_true (ck_of cc 273 rfl))
    (of_decide_eq_true (ck_of cc 274 rfl))
    (of_decide_eq_true (ck_of cc 275 rfl))
    (of_decide_eq_true (ck_of cc 276 rfl))
    (of_decide_eq_true (ck_of cc 277 rfl))
    (of_decide_eq_true (ck_of cc 278 rfl))
    (of_decide_eq_true (ck_of cc 279 rfl))
    (of_decide_eq_true (ck_of cc 280 rfl))
    (of_decide_eq_true (ck_of cc 281 rfl))
    (of_decide_eq_true (ck_of cc 282 rfl))
    (of_decide_eq_true (ck_of cc 283 rfl))
    (of_decide_eq_true (ck_of cc 284 rfl))
    (of_decide_eq_true (ck_of cc 285 rfl))
    (of_decide_eq_true (ck_of cc 286 rfl))
    (of_decide_eq_true (ck_of cc 287 rfl))
    (of_decide_eq_true (ck_of cc 288 rfl))
    (of_decide_eq_true (ck_of cc 289 rfl))
    (of_decide_eq_true (ck_of cc 290 rfl))
    (of_decide_eq_true (ck_of cc 291 rfl))
    (of_decide_eq_true (ck_of cc 292 rfl))
    (of_decide_eq_true (ck_of cc 293 rfl))
    (of_decide_eq_true (ck_of cc 294 rfl))
    (of_decide_eq_true (ck_of cc 295 rfl))
    (of_decide_eq_true (ck_of cc 296 rfl))
    (of_decide_eq_true (ck_of cc 297 rfl))
    (of_decide_eq_true (ck_of cc 298 rfl))
    (of_decide_eq_true (ck_of cc 299 rfl))
    (of_decide_eq_true (ck_of cc 300 rfl))
    (of_decide_eq_true (ck_of cc 301 rfl))
    (of_decide_eq_true (ck_of cc 302 rfl))
    (of_decide_eq_true (ck_of cc 303 rfl))
    (of_decide_eq_true (ck_of cc 304 rfl))
    (of_decide_eq_true (ck_of cc 305 rfl))
    (of_decide_eq_true (ck_of cc 306 rfl))
    (of_decide_eq_true (ck_of cc 307 rfl))
    (of_decide_eq_true (ck_of cc 308 rfl))
    (of_decide_eq_true (ck_of cc 309 rfl))
    (of_decide_eq_true (ck_of cc 310 rfl))
    (of_decide_eq_true (ck_of cc 311 rfl))
    (of_decide_eq_true (ck_of cc 312 rfl))
    (of_decide_eq_true (ck_of cc 313 rfl))
    (of_decide_eq_true (ck_of cc 314 rfl))
    (of_decide_eq_true (ck_of cc 315 rfl))
    (of_decide_eq_true (ck_of cc 316 rfl))
    (of_decide_eq_true (ck_of cc 317 rfl))
    (of_decide_eq_true (ck_of cc 318 rfl))
    (of_decide_eq_true (ck_of cc 319 rfl))
    (of_decide_eq_true (ck_of cc 320 rfl))
    (of_decide_eq_true (ck_of cc 321 rfl))
    (of_decide_eq_true (ck_of cc 322 rfl))
    (of_decide_eq_true (ck_of cc 323 rfl))
    (of_decide_eq_true (ck_of cc 324 rfl))
    (of_decide_eq_true (ck_of cc 325 rfl))
    (of_decide_eq_true (ck_of cc 326 rfl))
    (of_decide_eq_true (ck_of cc 327 rfl))
    (of_decide_eq_true (ck_of cc 328 rfl))
    (of_decide_eq_true (ck_of cc 329 rfl))
    (of_decide_eq_true (ck_of cc 330 rfl))
    (of_decide_eq_true (ck_of cc 331 rfl))
    (of_decide_eq_true (ck_of cc 332 rfl))
    (of_decide_eq_true (ck_of cc 333 rfl))
    (of_decide_eq_true (ck_of cc 334 rfl))
    (of_decide_eq_true (ck_of cc 335 rfl))
    (of_decide_eq_true (ck_of cc 336 rfl))
    (of_decide_eq_true (ck_of cc 337 rfl))
    (of_decide_eq_true (ck_of cc 338 rfl))
    (of_decide_eq_true (ck_of cc 339 rfl))
    (of_decide_eq_true (ck_of cc 340 rfl))
    (of_decide_eq_true (ck_of cc 341 rfl))
    (of_decide_eq_true (ck_of cc 342 rfl))
    (of_decide_eq_true (ck_of cc 343 rfl))
    (of_decide_eq_true (ck_of cc 344 rfl))
    (of_decide_eq_true (ck_of cc 345 rfl))
    (of_decide_eq_true (ck_of cc 346 rfl))
    (of_decide_eq_true (ck_of cc 347 rfl))
    (of_decide_eq_true (ck_of cc 348 rfl))
    (of_decide_eq_true (ck_of cc 349 rfl))
    (of_decide_eq_true (ck_of cc 350 rfl))
    (of_decide_eq_true (ck_of cc 351 rfl))
    (of_decide_eq_true (ck_of cc 352 rfl))
    (of_decide_eq_true (ck_of cc 353 rfl))
    (of_decide_eq_true (ck_of cc 354 rfl))
    (of_decide_eq_true (ck_of cc 355 rfl))
    (of_decide_eq_true (ck_of cc 356 rfl))
    (of_decide_eq_true (ck_of cc 357 rfl))
    (of_decide_eq_true (ck_of cc 358 rfl))
    (of_decide_eq_true (ck_of cc 359 rfl))
    (of_decide_eq_true (ck_of cc 360 rfl))
    (of_decide_eq_true (ck_of cc 361 rfl))
    (of_decide_eq_true (ck_of cc 362 rfl))
    (of_decide_eq_true (ck_of cc 363 rfl))
    (of_decide_eq_true (ck_of cc 364 rfl))
    (of_decide_eq_true (ck_of cc 365 rfl))
    (of_decide_eq_true (ck_of cc 366 rfl))
    (of_decide_eq_true (ck_of cc 367 rfl))
    (of_decide_eq_true (ck_of cc 368 rfl))
    (of_decide_eq_true (ck_of cc 369 rfl))
    (of_decide_eq_true (ck_of cc 370 rfl))
    (of_decide_eq_true (ck_of cc 371 rfl))
    (of_decide_eq_true (ck_of cc 372 rfl))
    (of_decide_eq_true (ck_of cc 373 rfl))
    (of_decide_eq_true (ck_of cc 374 rfl))
    (of_decide_eq_true (ck_of cc 375 rfl))
    (of_decide_eq_true (ck_of cc 376 rfl))
    (of_decide_eq_true (ck_of cc 377 rfl))
    (of_decide_eq_true (ck_of cc 378 rfl))
    (of_decide_eq_true (ck_of cc 379 rfl))
    (of_decide_eq_true (ck_of cc 380 rfl))
    (of_decide_eq_true (ck_of cc 381 rfl))
    (of_decide_eq_true (ck_of cc 382 rfl))
    (of_decide_eq_true (ck_of cc 383 rfl))
    (of_decide_eq_true (ck_of cc 384 rfl))
    (of_decide_eq_true (ck_of cc 385 rfl))
    (of_decide_eq_true (ck_of cc 386 rfl))
    (of_decide_eq_true (ck_of cc 387 rfl))
    (of_decide_eq_true (ck_of cc 388 rfl))
    (of_decide_eq_true (ck_of cc 389 rfl))
    (of_decide_eq_true (ck_of cc 390 rfl))
    (of_decide_eq_true (ck_of cc 391 rfl))
    (of_decide_eq_true (ck_of cc 392 rfl))
    (of_decide_eq_true (ck_of cc 393 rfl))
    (of_decide_eq_true (ck_of cc 394 rfl))
    (of_decide_eq_true (ck_of cc 395 rfl))
    (of_decide_eq_true (ck_of cc 396 rfl))
    (of_decide_eq_true (ck_of cc 397 rfl))
    (of_decide_eq_true (ck_of cc 398 rfl))
    (of_decide_eq_true (ck_of cc 399 rfl))
    (of_decide_eq_true (ck_of cc 400 rfl))
    (of_decide_eq_true (ck_of cc 401 rfl))
    (of_decide_eq_true (ck_of cc 402 rfl))
    (of_decide_eq_true (ck_of cc 403 rfl))
    (of_decide_eq_true (ck_of cc 404 rfl))
    (of_decide_eq_true (ck_of cc 405 rfl))
    (of_decide_eq_true (ck_of cc 406 rfl))
    (of_decide_eq_true (ck_of cc 407 rfl))
    (of_decide_eq_true (ck_of cc 408 rfl))
    (of_decide_eq_true (ck_of cc 409 rfl))
    (of_decide_eq_true (ck_of cc 410 rfl))
    (of_decide_eq_true (ck_of cc 411 rfl))
    (of_decide_eq_true (ck_of cc 412 rfl))
    (of_decide_eq_true (ck_of cc 413 rfl))
    (of_decide_eq_true (ck_of cc 414 rfl))
    (of_decide_eq_true (ck_of cc 415 rfl))
    (of_decide_eq_true (ck_of cc 416 rfl))
    (of_decide_eq_true (ck_of cc 417 rfl))
    (of_decide_eq_true (ck_of cc 418 rfl))
    (of_decide_eq_true (ck_of cc 419 rfl))
    (of_decide_eq_true (ck_of cc 420 rfl))
    (of_decide_eq_true (ck_of cc 421 rfl))
    (of_decide_eq_true (ck_of cc 422 rfl))
    (of_decide_eq_true (ck_of cc 423 rfl))
    (of_decide_eq_true (ck_of cc 424 rfl))
    (of_decide_eq_true (ck_of cc 425 rfl))
    (of_decide_eq_true (ck_of cc 426 rfl))
    (of_decide_eq_true (ck_of cc 427 rfl))
    (of_decide_eq_true (ck_of cc 428 rfl))
    (of_decide_eq_true (ck_of cc 429 rfl))
    (of_decide_eq_true (ck_of cc 430 rfl))
    (of_decide_eq_true (ck_of cc 431 rfl))
    (of_decide_eq_true (ck_of cc 432 rfl))
    (of_decide_eq_true (ck_of cc 433 rfl))
    (of_decide_eq_true (ck_of cc 434 rfl))
    (of_decide_eq_true (ck_of cc 435 rfl))
    (of_decide_eq_true (ck_of cc 436 rfl))
    (of_decide_eq_true (ck_of cc 437 rfl))
    (of_decide_eq_true (ck_of cc 438 rfl))
    (of_decide_eq_true (ck_of cc 439 rfl))
    (of_decide_eq_true (ck_of cc 440 rfl))
    (of_decide_eq_true (ck_of cc 441 rfl))
    (of_decide_eq_true (ck_of cc 442 rfl))
    (of_decide_eq_true (ck_of cc 443 rfl))
    (of_decide_eq_true (ck_of cc 444 rfl))
    (of_decide_eq_true (ck_of cc 445 rfl))
    (of_decide_eq_true (ck_of cc 446 rfl))
    (of_decide_eq_true (ck_of cc 447 rfl))
    (of_decide_eq_true (ck_of cc 448 rfl))
    (of_decide_eq_true (ck_of cc 449 rfl))
    (of_decide_eq_true (ck_of cc 450 rfl))
    (of_decide_eq_true (ck_of cc 451 rfl))
    (of_decide_eq_true (ck_of cc 452 rfl))
    (of_decide_eq_true (ck_of cc 453 rfl))
    (of_decide_eq_true (ck_of cc 454 rfl))
    (of_decide_eq_true (ck_of cc 455 rfl))
    (of_decide_eq_true (ck_of cc 456 rfl))
    (of_decide_eq_true (ck_of cc 457 rfl))
    (of_decide_eq_true (ck_of cc 458 rfl))
    (of_decide_eq_true (ck_of cc 459 rfl))
    (of_decide_eq_true (ck_of cc 460 rfl))
    (of_decide_eq_true (ck_of cc 461 rfl))
    (of_decide_eq_true (ck_of cc 462 rfl))
    (of_decide_eq_true (ck_of cc 463 rfl))
    (of_decide_eq_true (ck_of cc 464 rfl))
    (of_decide_eq_true (ck_of cc 465 rfl))
    (of_decide_eq_true (ck_of cc 466 rfl))
    (of_decide_eq_true (ck_of cc 467 rfl))
    (of_decide_eq_true (ck_of cc 468 rfl))
    (of_decide_eq_true (ck_of cc 469 rfl))
    (of_decide_eq_true (ck_of cc 470 rfl))
    (of_decide_eq_true (ck_of cc 471 rfl))
    (of_decide_eq_true (ck_of cc 472 rfl))
    (of_decide_eq_true (ck_of cc 473 rfl))
    (of_decide_eq_true (ck_of cc 474 rfl))
    (of_decide_eq_true (ck_of cc 475 rfl))
    (of_decide_eq_true (ck_of cc 476 rfl))
    (of_decide_eq_true (ck_of cc 477 rfl))
    (of_decide_eq_true (ck_of cc 478 rfl))
    (of_decide_eq_true (ck_of cc 479 rfl))
    (of_decide_eq_true (ck_of cc 480 rfl))
    (of_decide_eq_true (ck_of cc 481 rfl))
    (of_decide_eq_true (ck_of cc 482 rfl))
    (of_decide_eq_true (ck_of cc 483 rfl))
    (of_decide_eq_true (ck_of cc 484 rfl))
    (of_decide_eq_true (ck_of cc 485 rfl))
    (of_decide_eq_true (ck_of cc 486 rfl))
    (of_decide_eq_true (ck_of cc 487 rfl))
    (of_decide_eq_true (ck_of cc 488 rfl))
    (of_decide_eq_true (ck_of cc 489 rfl))
    (of_decide_eq_true (ck_of cc 490 rfl))
    (of_decide_eq_true (ck_of cc 491 rfl))
    (of_decide_eq_true (ck_of cc 492 rfl))
    (of_decide_eq_true (ck_of cc 493 rfl))
    (of_decide_eq_true (ck_of cc 494 rfl))
    (of_decide_eq_true (ck_of cc 495 rfl))
    (of_decide_eq_true (ck_of cc 496 rfl))
    (of_decide_eq_true (ck_of cc 497 rfl))
    (of_decide_eq_true (ck_of cc 498 rfl))
    (of_decide_eq_true (ck_of cc 499 rfl))
    (of_decide_eq_true (ck_of cc 500 rfl))
    (of_decide_eq_true (ck_of cc 501 rfl))
    (of_decide_eq_true (ck_of cc 502 rfl))
    (of_decide_eq_true (ck_of cc 503 rfl))
    (of_decide_eq_true (ck_of cc 504 rfl))
    (of_decide_eq_true (ck_of cc 505 rfl))
    (of_decide_eq_true (ck_of cc 506 rfl))
    (of_decide_eq_true (ck_of cc 507 rfl))
    (of_decide_eq_true (ck_of cc 508 rfl))
    (of_decide_eq_true (ck_of cc 509 rfl))
    (of_decide_eq_true (ck_of cc 510 rfl))
    (of_decide_eq_true (ck_of cc 511 rfl))
    (of_decide_eq_true (ck_of cc 512 rfl))
    (of_decide_eq_true (ck_of cc 513 rfl))
    (of_decide_eq_true (ck_of cc 514 rfl))
    (of_decide_eq_true (ck_of cc 515 rfl))
    (of_decide_eq_true (ck_of cc 516 rfl))
    (of_decide_eq_true (ck_of cc 517 rfl))
    (of_decide_eq_true (ck_of cc 518 rfl))
    (of_decide_eq_true (ck_of cc 519 rfl))
    (of_decide_eq_true (ck_of cc 520 rfl))
    (of_decide_eq_true (ck_of cc 521 rfl))
    (of_decide_eq_true (ck_of cc 522 rfl))
    (of_decide_eq_true (ck_of cc 523 rfl))
    (of_decide_eq_true (ck_of cc 524 rfl))
    (of_decide_eq_true (ck_of cc 525 rfl))
    (of_decide_eq_true (ck_of cc 526 rfl))
    (of_decide_eq_true (ck_of cc 527 rfl))
    (of_decide_eq_true (ck_of cc 528 rfl))
    (of_decide_eq_true (ck_of cc 529 rfl))
    (of_decide_eq_true (ck_of cc 530 rfl))
    (of_decide_eq_true (ck_of cc 531 rfl))
    (of_decide_eq_true (ck_of cc 532 rfl))
    (of_decide_eq_true (ck_of cc 533 rfl))
    (of_decide_eq_true (ck_of cc 534 rfl))
    (of_decide_eq_true (ck_of cc 535 rfl))
    (of_decide_eq_true (ck_of cc 536 rfl))
    (of_decide_eq_true (ck_of cc 537 rfl))
    (of_decide_eq_true (ck_of cc 538 rfl))
    (of_decide_eq_true (ck_of cc 539 rfl))
    (of_decide_eq_true (ck_of cc 540 rfl))
    (of_decide_eq_true (ck_of cc 541 rfl))
    (of_decide_eq_true (ck_of cc 542 rfl))
    (of_decide_eq_true (ck_of cc 543 rfl))
    (of_decide_eq_true (ck_of cc 544 rfl))
    (of_decide_eq_true (ck_of cc 545 rfl))
    (of_decide_eq_true (ck_of cc 546 rfl))
    (of_decide_eq_true (ck_of cc 547 rfl))
    (of_decide_eq_true (ck_of cc 548 rfl))
    (of_decide_eq_true (ck_of cc 549 rfl))
    (of_decide_eq_true (ck_of cc 550 rfl))
    (of_decide_eq_true (ck_of cc 551 rfl))
    (of_decide_eq_true (ck_of cc 552 rfl))
    (of_decide_eq_true (ck_of cc 553 rfl))
    (of_decide_eq_true (ck_of cc 554 rfl))
    (of_decide_eq_true (ck_of cc 555 rfl))
    (of_decide_eq_true (ck_of cc 556 rfl))
    (of_decide_eq_true (ck_of cc 557 rfl))
    (of_decide_eq_true (ck_of cc 558 rfl))
    (of_decide_eq_true (ck_of cc 559 rfl))
    (of_decide_eq_true (ck_of cc 560 rfl))
    (of_decide_eq_true (ck_of cc 561 rfl))
    (of_decide_eq_true (ck_of cc 562 rfl))
    (of_decide_eq_true (ck_of cc 563 rfl))
    (of_decide_eq_true (ck_of cc 564 rfl))
    (of_decide_eq_true (ck_of cc 565 rfl))
    (of_decide_eq_true (ck_of cc 566 rfl))
    (of_decide_eq_true (ck_of cc 567 rfl))
    (of_decide_eq_true (ck_of cc 568 rfl))
    (of_decide_eq_true (ck_of cc 569 rfl))
    (of_decide_eq_true (ck_of cc 570 rfl))
    (of_decide_eq_true (ck_of cc 571 rfl))
    (of_decide_eq_true (ck_of cc 572 rfl))
    (of_decide_eq_true (ck_of cc 573 rfl))
    (of_decide_eq_true (ck_of cc 574 rfl))
    (of_decide_eq_true (ck_of cc 575 rfl))
    (of_decide_eq_true (ck_of cc 576 rfl))
    (of_decide_eq_true (ck_of cc 577 rfl))
    (of_decide_eq_true (ck_of cc 578 rfl))
    (of_decide_eq_true (ck_of cc 579 rfl))
    (of_decide_eq_true (ck_of cc 580 rfl))
    (of_decide_eq_true (ck_of cc 581 rfl))
    (of_decide_eq_true (ck_of cc 582 rfl))
    (of_decide_eq_true (ck_of cc 583 rfl))
    (of_decide_eq_true (ck_of cc 584 rfl))
    (of_decide_eq_true (ck_of cc 585 rfl))
    (of_decide_eq_true (ck_of cc 586 rfl))
    (of_decide_eq_true (ck_of cc 587 rfl))
    (of_decide_eq_true (ck_of cc 588 rfl))
    (of_decide_eq_true (ck_of cc 589 rfl))
    (of_decide_eq_true (ck_of cc 590 rfl))
    (of_decide_eq_true (ck_of cc 591 rfl))
    (of_decide_eq_true (ck_of cc 592 rfl))
    l0
    c0
    k0
    (of_decide_eq_true (ck_of cc 593 rfl))
    l1
    c1
    k1
    (of_decide_eq_true (ck_of cc 594 rfl))
    l2
    c2
    k2
    (of_decide_eq_true (ck_of cc 595 rfl))
    l3
    c3
    k3
    (of_decide_eq_true (ck_of cc 596 rfl))
    l4
    c4
    k4
    (of_decide_eq_true (ck_of cc 597 rfl))
    l5
    c5
    k5
    (of_decide_eq_true (ck_of cc 598 rfl))
    l6
    c6
    k6
    (of_decide_eq_true (ck_of cc 599 rfl))
    l7
    c7
    k7
    (of_decide_eq_true (ck_of cc 600 rfl))
    (of_decide_eq_true (ck_of cc 601 rfl))
    (of_decide_eq_true (ck_of cc 602 rfl))
    (of_decide_eq_true (ck_of cc 603 rfl))
    (of_decide_eq_true (ck_of cc 604 rfl))
    (of_decide_eq_true (ck_of cc 605 rfl))
    (of_decide_eq_true (ck_of cc 606 rfl))
end Lw
open PySem PySem.W PyProof.Rows
set_option maxHeartbeats 0 in
theorem PySem.Challenge.cw_eachalone_k04_refusals_holds : PySem.Challenge.rw_eachalone_k04_refusals.Holds := by
  w_on; o_law
  refine HandSHeadRun.head_any (r := PySem.W.OpenLaw.row PySem.Challenge.rw_eachalone_k04_refusals) (q := PySem.W.view (PySem.W.OpenLaw.row PySem.Challenge.rw_eachalone_k04_refusals).prog [27]) (H := Lw.hHk) (ob := Lw.hOb) (M := 30000) (loose := Lw.hNames) (d := HandSHeadRun.topDef (PySem.W.OpenLaw.row PySem.Challenge.rw_eachalone_k04_refusals).prog 27) (kwd := []) Lw.hOb_eq
    (by kernel_rfl) (fun s => by kernel_rfl) Lw.hRun (by kernel_rfl) (by kernel_rfl) (by kernel_rfl) (by rfl) (by first | assumption | decide +kernel) (by decide +kernel) ⟨rfl, rfl, rfl, rfl, rfl, by decide +kernel⟩ ?hw ?hc
  case hw => w_witness2
  case hc =>
    refine Vi.walkE (l := PySem.Challenge.rw_eachalone_k04_refusals) (n := 63) (k := 4) (x := "_law_script") (m := Lw.m_law) rfl (by decide) (by kernel_rfl) ⟨rfl, by decide, by decide⟩ ?F Lw.law_true
    intro w mg fa h Y G hmg0
    obtain ⟨K, KX, c⟩ := Y
    have hmg : mg ("law" : PySem.Str) = some (.ref fa) := by
      have e : (HandSHeadRun.topDef (PySem.W.OpenLaw.row PySem.Challenge.rw_eachalone_k04_refusals).prog 27).name = ("law" : PySem.Str) := by kernel_rfl
      rw [← e]
      exact hmg0
    obtain ⟨c2, fd, hb, hF⟩ := Lw.hFacts (l := PySem.Challenge.rw_eachalone_k04_refusals) (w := w) KX G hmg c
    exact ⟨K, c2, fd, KX, hb, hF⟩
end
