import PyProof.Rows.All
import Wide.All
import OpenK.AllK
import Wide.FinOn
import KE.KStateDown
import HandS.Base
import HandS.Call
import HandS.Exc
import HandS.Defaults
import HandS.Words
import HandS.Head0
import HandS.Head1
import HandS.Head2
import HandS.HeadHook1
import HandS.HeadHook2
import HandS.HeadHook3
import HandS.List
import HandS.Comp
import HandS.TupAny
import HandS.Wide
import HandS.Style
import HandS.IsInst
import HandS.Flow
import HandS.WordsExc
import HandS.CallSlots
import HandS.EndBits
import HandS.Iter
import HandS.NoneIn
import HandS.More
import PyProof.ReprReads
import HandS.Zip
import KE.BitLaws
import HandS.TupMul
import HandS.Deep
import HandS.Sort
import HandS.CallRecv
import HandS.Dict
import HandS.Small
import HandS.Conv
import HandS.TupLen
import KE.KDictCopyH
import HandS.SortRule
import HandS.SortInts
import HandS.OwnEq
import HandS.ExcIs
import HandS.ExcOwn
import KE.KExcIs
import HandS.ExcInit
import HandS.ExcField
import HandS.Text
import HandS.Replace
import HandS.SetFor
import HandS.Strs
import KE.KDictSum
import HandS.SortOrd
import HandS.ExcValue
import KE.KAssignIn
import HandS.SortKw
import HandS.CallLocal
import HandS.Flt
import PyProof.AutoSeq1
import PySem.Challenge.RW_eachalone_k75_whole_words_said_twice
section
set_option Elab.async false
set_option linter.all false
set_option maxRecDepth 100000
set_option maxHeartbeats 2000000
/-! what a law's end looks at, when the top has run in the kernel -/
namespace Vi
open PySem PySem.Spec PyProof.Rows L2 He
/-! what is looked at -/
abbrev AlV : Type := Bool × List FnW × List (Option (List (Option (Str × Int))))
def obsV (ck : List (PySem.W.Frag → Bool)) (fn : List DefD) (dx : List (Str × List Str)) (K : PySem.W.Frag) : AlV := ((ck.all fun f => f K) && fn.all fun d => d.ok K, fn.map fun d => fnW K d.at_, dx.map fun p => dicW K (ga K p.1))
def valHd (fn : List DefD) (dx : List (Str × List Str)) (w : World) : AlV := (true, fn.map DefD.val, dx.map fun p => some (keysIn w.params p.2))
def obsVG (n : Nat) (ck : List (PySem.W.Frag → Bool)) (fn : List DefD) (dx : List (Str × List Str)) (g : Addr → Option Obj) : AlV := obsV ck fn dx (frG g (cStatics :: asD g n))
def hookV (n : Nat) (ck : List (PySem.W.Frag → Bool)) (fn : List DefD) (dx : List (Str × List Str)) : PySem.W.Hook where
  α := AlV
  obs := fun s => obsVG n ck fn dx s.heap.get?
  val := fun w => valHd fn dx w
  says := fun w h => ∃ K : PySem.W.Frag, K.In h ∧ obsV ck fn dx K = valHd fn dx w
  of := fun _ _ e => ⟨_, frG_in, e⟩
  keeps := fun _ _ _ ⟨K, hK, c⟩ k => ⟨K, PySem.W.Frag.In.keeps hK k, c⟩
theorem obsVG_eq {n : Nat} {ck : List (PySem.W.Frag → Bool)} {fn : List DefD} {dx : List (Str × List Str)} {g : Addr → Option Obj} {s : Shared} (h : ∀ a, g a = s.heap.get? a) : obsVG n ck fn dx g = (hookV n ck fn dx).obs s := by
  have e : g = s.heap.get? := funext h
  rw [e] <;> rfl
/-- the world with one row of its habits set -/
def habW (w : World) (row : String) (b : Bool) : World := { w with params := { w.params with followText := fun r => if r = row then b else w.params.followText r } }
theorem habW_eq (w : World) (row : String) : habW w row (w.params.followText row) = w := by
  have e : (fun r => if r = row then w.params.followText row else w.params.followText r) = w.params.followText := by
    funext r
    by_cases h : r = row
    · rw [if_pos h, h]
    · rw [if_neg h]
  unfold habW
  rw [e]
/-- a global that is a number, a text -/
def ckI (x : Str) (i : Int) (K : PySem.W.Frag) : Bool := match PySem.W.nsIn K mainGlobals x with
  | some (some (.int j _)) => decide (j = i)
  | _ => false
def ckC (C : PySem.W.Frag → Addr) (m : Str) (b : String) (K : PySem.W.Frag) : Bool := match PySem.W.findCls K (.ref (C K)) (.type "type") m with
  | some (.val (.builtin n)) => decide (n = b)
  | _ => false
/-- an exception's class with an __init__ of its own -/
def ckX (C : Addr) (chain : List Value) (newId : String) (K : PySem.W.Frag) : Bool := match K.lookup C with
  | some ⟨.type "type", _, .cls cd, sl⟩ => (match cd.mro, sl.toList with
    | .ref C' :: bm, [_, _, _, _, some (.builtin n), _] => C' == C && (n == newId && (!cd.hasDel && (cd.hasDict && decide (bm = chain))))
    | _, _ => false)
  | _ => false
end Vi
end
section
set_option Elab.async false
set_option linter.all false
set_option maxRecDepth 100000
namespace Lw
open PySem PySem.Spec PyProof.Rows L2 Vi He
def hTop (i : Nat) : Stmt := PySem.Challenge.pw_eachalone_k75_whole_words_said_twice.main.body.getD i (.Pass ⟨0, 0, 0, 0⟩)
def hIn (s : Stmt) (i : Nat) : Stmt := match s with
  | .ClassDef (body := b) .. => b.getD i (.Pass ⟨0, 0, 0, 0⟩)
  | _ => .Pass ⟨0, 0, 0, 0⟩
abbrev hsx_TooMany : Stmt := hIn (hTop 2) 0
abbrev hs_inner_parts : Stmt := hTop 8
abbrev hs_rebuilt : Stmt := hTop 10
abbrev hs_other_word : Stmt := hTop 14
abbrev hs_pushed_by : Stmt := hTop 15
abbrev hs_pushed : Stmt := hTop 16
abbrev hs_opened : Stmt := hTop 17
abbrev hs_joined : Stmt := hTop 18
abbrev hs_lean_cases : Stmt := hTop 19
abbrev hs_lean : Stmt := hTop 20
abbrev hs_size_of : Stmt := hTop 21
abbrev hs_opened_size : Stmt := hTop 22
abbrev hs_look_at_great : Stmt := hTop 23
abbrev hs_otherwise : Stmt := hTop 25
abbrev hs_law_pool : Stmt := hTop 27
abbrev hs_law_take : Stmt := hTop 28
abbrev hs_law_decision : Stmt := hTop 29
abbrev hs_law_inner : Stmt := hTop 30
abbrev hs_law_put : Stmt := hTop 31
abbrev hs_law_strewn : Stmt := hTop 32
abbrev hs_law_size : Stmt := hTop 33
abbrev hs_law_otherwise_told : Stmt := hTop 34
abbrev hs_law_all_parts : Stmt := hTop 35
abbrev hs_law_clean : Stmt := hTop 36
abbrev hs_law_word_right : Stmt := hTop 37
abbrev hs_law : Stmt := hTop 38
abbrev hR : PySem.W.OpenRow := PySem.W.OpenLaw.row PySem.Challenge.rw_eachalone_k75_whole_words_said_twice
def hNames0 : List Str := ["AloneError",
  "TooMany",
  "NoWord",
  "MOST_PARTS",
  "DEEPEST",
  "MOST_WITHIN",
  "inner_parts",
  "rebuilt",
  "YES",
  "NO",
  "other_word",
  "pushed_by",
  "pushed",
  "opened",
  "joined",
  "lean_cases",
  "lean",
  "size_of",
  "opened_size",
  "look_at_great"]
def hNames1 : List Str := ["RULES",
  "otherwise",
  "_law_pool",
  "_law_take",
  "_law_decision",
  "_law_inner",
  "_law_put",
  "_law_strewn",
  "_law_size",
  "_law_otherwise_told",
  "_law_all_parts",
  "_law_clean",
  "_law_word_right"]
def hNames : List Str := hNames0 ++ hNames1
def hCk0 : List (PySem.W.Frag → Bool) := [fun K => decide (PySem.W.specialIn K (.builtin "object.__class__") "__get__" = some (some (.builtin "getset_descriptor.__get__"))),
  fun K => decide (PySem.W.takesIn K (.builtin "object.__class__") = some true),
  fun K => decide (PySem.W.nsIn K mainGlobals "AloneError" = some (some (.ref (ga K "AloneError")))),
  fun K => decide (PySem.W.subIn K (.ref (ga K "AloneError")) (.type "BaseException") = some true),
  fun K => decide (PySem.W.typeIn K (.ref (ga K "AloneError")) = some (.type "type")),
  fun K => decide (PySem.W.specialIn K (.ref (ga K "AloneError")) "__getattribute__" = some (some (.builtin "type.__getattribute__"))),
  fun K => decide (PySem.W.readsIn K (ga K "AloneError") (.type "type") = true),
  ckC (fun K => (ga K "AloneError")) "__init__" "ValueError.__init__",
  fun K => decide (PySem.W.findIn K (.ref (ga K "AloneError")) "__getattribute__" = some (some (.builtin "BaseException.__getattribute__"))),
  fun K => decide (PySem.W.findIn K (.ref (ga K "AloneError")) "__getattr__" = some none),
  fun K => decide (PySem.W.hasDictIn K (ga K "AloneError") = true),
  fun K => decide (PySem.W.findIn K (.ref (ga K "AloneError")) "__class__" = some (some (.builtin "object.__class__"))),
  fun K => decide (PySem.W.mroIn K (ga K "AloneError") (.type "object") = some true),
  fun K => decide (PySem.W.nsIn K mainGlobals "TooMany" = some (some (.ref (ga K "TooMany")))),
  fun K => decide (PySem.W.subIn K (.ref (ga K "TooMany")) (.type "BaseException") = some true),
  fun K => decide (PySem.W.typeIn K (.ref (ga K "TooMany")) = some (.type "type")),
  fun K => ckX (ga K "TooMany") [.ref (ga K "AloneError"), .type "ValueError", .type "Exception", .type "BaseException", .type "object"] "ValueError.__new__" K,
  fun K => decide (PySem.W.findIn K (.ref (ga K "TooMany")) "__setattr__" = some (some (.builtin "object.__setattr__"))),
  fun K => decide (PySem.W.keepIn K (.ref (ga K "TooMany")) = true),
  fun K => decide (PySem.W.findIn K (.ref (ga K "TooMany")) "__init__" = some (some (.ref (ma K (ga K "TooMany") "__init__"))))]
def hCk1 : List (PySem.W.Frag → Bool) := [fun K => decide (PySem.W.typeIn K (.ref (ma K (ga K "TooMany") "__init__")) = some (.type "function")),
  fun K => decide (PySem.W.findIn K (.ref (ga K "TooMany")) "size" = some none),
  fun K => decide (PySem.W.findIn K (.ref (ga K "TooMany")) "__getattribute__" = some (some (.builtin "BaseException.__getattribute__"))),
  fun K => decide (PySem.W.findIn K (.ref (ga K "TooMany")) "__getattr__" = some none),
  fun K => decide (PySem.W.hasDictIn K (ga K "TooMany") = true),
  fun K => decide (PySem.W.findIn K (.ref (ga K "TooMany")) "__class__" = some (some (.builtin "object.__class__"))),
  fun K => decide (PySem.W.mroIn K (ga K "TooMany") (.type "object") = some true),
  fun K => decide (PySem.W.nsIn K mainGlobals "NoWord" = some (some (.ref (ga K "NoWord")))),
  fun K => decide (PySem.W.subIn K (.ref (ga K "NoWord")) (.type "BaseException") = some true),
  fun K => decide (PySem.W.typeIn K (.ref (ga K "NoWord")) = some (.type "type")),
  fun K => decide (PySem.W.excIn K (ga K "NoWord") [.type "ValueError", .type "Exception", .type "BaseException", .type "object"] "ValueError.__new__" = true),
  fun K => decide (PySem.W.keepIn K (.ref (ga K "NoWord")) = true),
  fun K => decide (PySem.W.findIn K (.ref (ga K "NoWord")) "__getattribute__" = some (some (.builtin "BaseException.__getattribute__"))),
  fun K => decide (PySem.W.findIn K (.ref (ga K "NoWord")) "__getattr__" = some none),
  fun K => decide (PySem.W.hasDictIn K (ga K "NoWord") = true),
  fun K => decide (PySem.W.findIn K (.ref (ga K "NoWord")) "__class__" = some (some (.builtin "object.__class__"))),
  fun K => decide (PySem.W.mroIn K (ga K "NoWord") (.type "object") = some true),
  fun K => decide (PySem.W.subIn K (.ref (ga K "TooMany")) (.ref (ga K "TooMany")) = some true),
  fun K => decide (PySem.W.subIn K (.ref (ga K "TooMany")) (.ref (ga K "AloneError")) = some true),
  fun K => decide (PySem.W.subIn K (.ref (ga K "NoWord")) (.ref (ga K "NoWord")) = some true)]
def hCk2 : List (PySem.W.Frag → Bool) := [fun K => decide (PySem.W.subIn K (.ref (ga K "NoWord")) (.ref (ga K "AloneError")) = some true),
  fun K => decide (PySem.W.subIn K (.ref (ga K "NoWord")) (.ref (ga K "TooMany")) = some false),
  fun K => decide (PySem.W.nsIn K mainGlobals "inner_parts" = some (some (.ref (ga K "inner_parts")))),
  fun K => decide (PySem.W.nsIn K mainGlobals "rebuilt" = some (some (.ref (ga K "rebuilt")))),
  fun K => decide (PySem.W.nsIn K mainGlobals "other_word" = some (some (.ref (ga K "other_word")))),
  fun K => decide (PySem.W.nsIn K mainGlobals "pushed_by" = some (some (.ref (ga K "pushed_by")))),
  fun K => decide (PySem.W.nsIn K mainGlobals "pushed" = some (some (.ref (ga K "pushed")))),
  fun K => decide (PySem.W.nsIn K mainGlobals "opened" = some (some (.ref (ga K "opened")))),
  fun K => decide (PySem.W.nsIn K mainGlobals "joined" = some (some (.ref (ga K "joined")))),
  fun K => decide (PySem.W.nsIn K mainGlobals "lean_cases" = some (some (.ref (ga K "lean_cases")))),
  fun K => decide (PySem.W.nsIn K mainGlobals "lean" = some (some (.ref (ga K "lean")))),
  fun K => decide (PySem.W.nsIn K mainGlobals "size_of" = some (some (.ref (ga K "size_of")))),
  fun K => decide (PySem.W.nsIn K mainGlobals "opened_size" = some (some (.ref (ga K "opened_size")))),
  fun K => decide (PySem.W.nsIn K mainGlobals "look_at_great" = some (some (.ref (ga K "look_at_great")))),
  fun K => decide (PySem.W.nsIn K mainGlobals "otherwise" = some (some (.ref (ga K "otherwise")))),
  fun K => decide (PySem.W.nsIn K mainGlobals "_law_pool" = some (some (.ref (ga K "_law_pool")))),
  fun K => decide (PySem.W.nsIn K mainGlobals "_law_take" = some (some (.ref (ga K "_law_take")))),
  fun K => decide (PySem.W.nsIn K mainGlobals "_law_decision" = some (some (.ref (ga K "_law_decision")))),
  fun K => decide (PySem.W.nsIn K mainGlobals "_law_inner" = some (some (.ref (ga K "_law_inner")))),
  fun K => decide (PySem.W.nsIn K mainGlobals "_law_put" = some (some (.ref (ga K "_law_put"))))]
def hCk3 : List (PySem.W.Frag → Bool) := [fun K => decide (PySem.W.nsIn K mainGlobals "_law_strewn" = some (some (.ref (ga K "_law_strewn")))),
  fun K => decide (PySem.W.nsIn K mainGlobals "_law_size" = some (some (.ref (ga K "_law_size")))),
  fun K => decide (PySem.W.nsIn K mainGlobals "_law_otherwise_told" = some (some (.ref (ga K "_law_otherwise_told")))),
  fun K => decide (PySem.W.nsIn K mainGlobals "_law_all_parts" = some (some (.ref (ga K "_law_all_parts")))),
  fun K => decide (PySem.W.nsIn K mainGlobals "_law_clean" = some (some (.ref (ga K "_law_clean")))),
  fun K => decide (PySem.W.nsIn K mainGlobals "_law_word_right" = some (some (.ref (ga K "_law_word_right")))),
  fun K => decide (PySem.W.nsIn K mainGlobals "law" = some (some (.ref (ga K "law")))),
  fun K => decide (PySem.W.nsIn K mainGlobals "int" = some none),
  fun K => decide (PySem.W.nsIn K mainGlobals "isinstance" = some none),
  fun K => decide (PySem.W.nsIn K mainGlobals "len" = some none),
  fun K => decide (PySem.W.nsIn K mainGlobals "list" = some none),
  fun K => decide (PySem.W.nsIn K mainGlobals "max" = some none),
  fun K => decide (PySem.W.nsIn K mainGlobals "min" = some none),
  fun K => decide (PySem.W.nsIn K mainGlobals "range" = some none),
  fun K => decide (PySem.W.nsIn K mainGlobals "str" = some none),
  fun K => decide (PySem.W.nsIn K mainGlobals "sum" = some none),
  fun K => decide (PySem.W.nsIn K mainGlobals "tuple" = some none),
  ckI "DEEPEST" 12,
  ckI "MOST_PARTS" 60,
  ckI "MOST_WITHIN" 6]
def hCk4 : List (PySem.W.Frag → Bool) := [fun K => decide (PySem.W.nsIn K mainGlobals "NO" = some (some (.ref (ga K "NO")))),
  fun K => tupB K "NO" [.str "no"],
  fun K => decide (PySem.W.nsIn K mainGlobals "YES" = some (some (.ref (ga K "YES")))),
  fun K => tupB K "YES" [.str "yes"],
  fun K => decide (PySem.W.nsIn K mainGlobals "RULES" = some (some (.ref (ga K "RULES")))),
  fun K => decide (PySem.W.nsIn K (ga K "RULES") "pushed" = some (some (.ref (ga K "pushed")))),
  fun K => decide (PySem.W.nsIn K (ga K "RULES") "opened" = some (some (.ref (ga K "opened")))),
  fun K => decide (PySem.W.nsIn K (ga K "RULES") "joined" = some (some (.ref (ga K "joined")))),
  fun K => decide (PySem.W.nsIn K (ga K "RULES") "lean" = some (some (.ref (ga K "lean"))))]
def hCk : List (PySem.W.Frag → Bool) := hCk0 ++ hCk1 ++ hCk2 ++ hCk3 ++ hCk4
def hd_0 : DefD := ⟨("TooMany", some "__init__"), "__init__", "TooMany.__init__", defArgs hsx_TooMany, defBody hsx_TooMany, defScope hsx_TooMany, [], []⟩
def hd_1 : DefD := ⟨("inner_parts", none), "inner_parts", "inner_parts", defArgs hs_inner_parts, defBody hs_inner_parts, defScope hs_inner_parts, [], []⟩
def hd_2 : DefD := ⟨("rebuilt", none), "rebuilt", "rebuilt", defArgs hs_rebuilt, defBody hs_rebuilt, defScope hs_rebuilt, [], []⟩
def hd_3 : DefD := ⟨("other_word", none), "other_word", "other_word", defArgs hs_other_word, defBody hs_other_word, defScope hs_other_word, [], []⟩
def hd_4 : DefD := ⟨("pushed_by", none), "pushed_by", "pushed_by", defArgs hs_pushed_by, defBody hs_pushed_by, defScope hs_pushed_by, [], []⟩
def hd_5 : DefD := ⟨("pushed", none), "pushed", "pushed", defArgs hs_pushed, defBody hs_pushed, defScope hs_pushed, [], []⟩
def hd_6 : DefD := ⟨("opened", none), "opened", "opened", defArgs hs_opened, defBody hs_opened, defScope hs_opened, [], []⟩
def hd_7 : DefD := ⟨("joined", none), "joined", "joined", defArgs hs_joined, defBody hs_joined, defScope hs_joined, [], []⟩
def hd_8 : DefD := ⟨("lean_cases", none), "lean_cases", "lean_cases", defArgs hs_lean_cases, defBody hs_lean_cases, defScope hs_lean_cases, [], []⟩
def hd_9 : DefD := ⟨("lean", none), "lean", "lean", defArgs hs_lean, defBody hs_lean, defScope hs_lean, [], []⟩
def hd_10 : DefD := ⟨("size_of", none), "size_of", "size_of", defArgs hs_size_of, defBody hs_size_of, defScope hs_size_of, [], []⟩
def hd_11 : DefD := ⟨("opened_size", none), "opened_size", "opened_size", defArgs hs_opened_size, defBody hs_opened_size, defScope hs_opened_size, [], []⟩
def hd_12 : DefD := ⟨("look_at_great", none), "look_at_great", "look_at_great", defArgs hs_look_at_great, defBody hs_look_at_great, defScope hs_look_at_great, [], []⟩
def hd_13 : DefD := ⟨("otherwise", none), "otherwise", "otherwise", defArgs hs_otherwise, defBody hs_otherwise, defScope hs_otherwise, [], []⟩
def hd_14 : DefD := ⟨("_law_pool", none), "_law_pool", "_law_pool", defArgs hs_law_pool, defBody hs_law_pool, defScope hs_law_pool, [], []⟩
def hd_15 : DefD := ⟨("_law_take", none), "_law_take", "_law_take", defArgs hs_law_take, defBody hs_law_take, defScope hs_law_take, [], []⟩
def hd_16 : DefD := ⟨("_law_decision", none), "_law_decision", "_law_decision", defArgs hs_law_decision, defBody hs_law_decision, defScope hs_law_decision, [], []⟩
def hd_17 : DefD := ⟨("_law_inner", none), "_law_inner", "_law_inner", defArgs hs_law_inner, defBody hs_law_inner, defScope hs_law_inner, [], []⟩
def hd_18 : DefD := ⟨("_law_put", none), "_law_put", "_law_put", defArgs hs_law_put, defBody hs_law_put, defScope hs_law_put, [], []⟩
def hd_19 : DefD := ⟨("_law_strewn", none), "_law_strewn", "_law_strewn", defArgs hs_law_strewn, defBody hs_law_strewn, defScope hs_law_strewn, [], []⟩
def hd_20 : DefD := ⟨("_law_size", none), "_law_size", "_law_size", defArgs hs_law_size, defBody hs_law_size, defScope hs_law_size, [], []⟩
def hd_21 : DefD := ⟨("_law_otherwise_told", none), "_law_otherwise_told", "_law_otherwise_told", defArgs hs_law_otherwise_told, defBody hs_law_otherwise_told, defScope hs_law_otherwise_told, [], []⟩
def hd_22 : DefD := ⟨("_law_all_parts", none), "_law_all_parts", "_law_all_parts", defArgs hs_law_all_parts, defBody hs_law_all_parts, defScope hs_law_all_parts, [], []⟩
def hd_23 : DefD := ⟨("_law_clean", none), "_law_clean", "_law_clean", defArgs hs_law_clean, defBody hs_law_clean, defScope hs_law_clean, [], []⟩
def hd_24 : DefD := ⟨("_law_word_right", none), "_law_word_right", "_law_word_right", defArgs hs_law_word_right, defBody hs_law_word_right, defScope hs_law_word_right, [], []⟩
def hd_25 : DefD := ⟨("law", none), "law", "law", defArgs hs_law, defBody hs_law, defScope hs_law, [], []⟩
def hFn0 : List DefD := [hd_0,
  hd_1,
  hd_2,
  hd_3,
  hd_4,
  hd_5,
  hd_6,
  hd_7,
  hd_8,
  hd_9,
  hd_10,
  hd_11,
  hd_12,
  hd_13,
  hd_14,
  hd_15,
  hd_16,
  hd_17,
  hd_18,
  hd_19]
def hFn1 : List DefD := [hd_20,
  hd_21,
  hd_22,
  hd_23,
  hd_24,
  hd_25]
def hFn : List DefD := hFn0 ++ hFn1
def hDx : List (Str × List Str) := [("RULES", ["pushed", "opened", "joined", "lean"])]
abbrev hHk : PySem.W.Hook := hookV 4 hCk hFn hDx
def hOb (s : PySem.W.SharedT) : AlV := obsVG 4 hCk hFn hDx (HandSHeadRun.getT s)
theorem hOb_eq (s : PySem.W.SharedT) : hOb s = hHk.obs s.abs := obsVG_eq (HandSHeadRun.getT_eq s)
set_option maxHeartbeats 0 in
theorem hRun0 (w : World) : HandSHeadRun.RunEq hR (PySem.W.view hR.prog [38]) hHk hOb 30000 hNames (habW w "special-get-raises" false) := by
  intro os
  kernel_rfl
set_option maxHeartbeats 0 in
theorem hRun1 (w : World) : HandSHeadRun.RunEq hR (PySem.W.view hR.prog [38]) hHk hOb 30000 hNames (habW w "special-get-raises" true) := by
  intro os
  kernel_rfl
theorem hRun (w : World) : HandSHeadRun.RunEq hR (PySem.W.view hR.prog [38]) hHk hOb 30000 hNames w := by
  have e := habW_eq w "special-get-raises"
  cases hb : w.params.followText "special-get-raises" with
  | false => rw [hb] at e; rw [← e]; exact hRun0 w
  | true => rw [hb] at e; rw [← e]; exact hRun1 w
end Lw
end
section
set_option Elab.async false
set_option linter.all false
set_option maxRecDepth 100000
set_option maxHeartbeats 2000000
namespace Vi
open PySem PySem.Spec L2
/-! values and objects as plain data -/
inductive Ty where
  | int | bool | str | list | tuple | dict
  deriving DecidableEq
def Ty.nm : Ty → String
  | .int => "int"
  | .bool => "bool"
  | .str => "str"
  | .list => "list"
  | .tuple => "tuple"
  | .dict => "dict"
inductive D where
  | non
  | bl (b : Bool)
  | int (i : Int)
  | str (s : Str)
  | tup (ds : List D)
  | lst (ds : List D)
  | scr (ds : List D)
  | ref (n : Nat)
  | ty (n : Ty)
  | cls (c : String)
  | rng (lo hi : Int)
  | exc (c : String) (ns : List Str) (ds : List D)
  | obj (c : String) (ns : List Str) (ds : List D)
  | dk (ks : List Key) (ds : List D)
  | db (ks : List (List Bool)) (ds : List D)
  | dz (ks : List Key) (ds : List D)
inductive O where
  | lst (ds : List D)
  | dct (ks : List Key) (ds : List D)
  | dtb (ks : List (List Bool)) (ds : List D)
  | ins (c : String) (ns : List Str) (ds : List D)
  | dead
structure G where
  K : PySem.W.Frag
  cls : String → Addr
inductive R (α : Type) where
  | ok (a : α) (A : List O)
  | ex (c : String) (fs : List (Str × D)) (A : List O)
  | no
def R.bind {α β : Type} (r : R α) (f : α → List O → R β) : R β :=
  match r with
  | .ok a A => f a A
  | .ex c fs A => .ex c fs A
  | .no => .no
@[simp] theorem R.bind_ok {α β : Type} (a : α) (A : List O) (f : α → List O → R β) : (R.ok a A).bind f = f a A := rfl
@[simp] theorem R.bind_ex {α β : Type} (c : String) (fs : List (Str × D)) (A : List O) (f : α → List O → R β) : (R.ex c fs A : R α).bind f = .ex c fs A := rfl
@[simp] theorem R.bind_no {α β : Type} (f : α → List O → R β) : (R.no : R α).bind f = .no := rfl
abbrev Env := List (Option D)
abbrev M (α : Type) := Env → List O → R α
/-! dicts whose keys are tuples of truths -/
def hashB (bs : List Bool) : Int := reduceHash (Builtin.Tuple.tupleHashOf (bs.map fun b => hashInt (if b then 1 else 0)))
def entB (x : List Bool × Addr) (u : Value) : DictEntry := ⟨hashB x.1, .ref x.2, u⟩
def DbO (a : Addr) (ks : List (List Bool × Addr)) (vs : List V) : HO := .ext fun h => ks.length ≤ sizeLine ∧ (a == sysModules) = false ∧ (ks.map (·.1)).Nodup ∧
  ∃ us o es ep, Vals vs us ∧ us.length = ks.length ∧ h.get? a = some o ∧ o.ExactDict ∧ o.data = .dict es ep ∧ es.toList = List.zipWith entB ks us
inductive KsR (K : PySem.W.Frag) (W : Hp) : List (List Bool) → List Addr → Prop
  | nil : KsR K W [] []
  | cons {k : List Bool} {ks : List (List Bool)} {p : Addr} {ps : List Addr} : SqT K W p (k.map V.bl) → KsR K W ks ps → KsR K W (k :: ks) (p :: ps)
/-! an exception object that nobody changes any longer -/
def XcO (cls : Value) (d : Option Addr) (a : Addr) : HO := .ext fun h => ∃ (oe : Obj) (vs : Array Value), h.get? a = some oe ∧ Zc cls d oe ∧ oe.data = .fields vs
def XcW (W : Hp) (cls : Value) (ns : List Str) (vs : List V) (a : Addr) : Prop := (ns = [] ∧ W a = some (XcO cls none a)) ∨ (ns ≠ [] ∧ ∃ dx, W a = some (XcO cls (some dx) a) ∧ W dx = some (.xd (ns.zip vs)))
theorem XcW.mono {W W' : Hp} {cls : Value} {ns : List Str} {vs : List V} {a : Addr} (e : ∀ a o, W a = some o → W' a = some o) : XcW W cls ns vs a → XcW W' cls ns vs a
  | .inl ⟨h, w⟩ => .inl ⟨h, e _ _ w⟩
  | .inr ⟨h, dx, w, w2⟩ => .inr ⟨h, dx, e _ _ w, e _ _ w2⟩
/-! how data stand in the heap -/
mutual
inductive VR (g : G) (W : Hp) (ρ : List Addr) : D → V → Prop
  | non : VR g W ρ .non .non
  | bl (b : Bool) : VR g W ρ (.bl b) (.bl b)
  | int (i : Int) : VR g W ρ (.int i) (.int i)
  | str (s : Str) : VR g W ρ (.str s) (.str s)
  | tup {ds : List D} {a : Addr} {vs : List V} : SqT g.K W a vs → VRs g W ρ ds vs → VR g W ρ (.tup ds) (.ref a)
  | lst {ds : List D} {a : Addr} {vs : List V} : W a = some (.lst vs) → VRs g W ρ ds vs → VR g W ρ (.lst ds) (.ref a)
  | scr {ds : List D} {a : Addr} {vs : List V} : SqL g.K W a vs → VRs g W ρ ds vs → VR g W ρ (.scr ds) (.ref a)
  | ref {n : Nat} {a : Addr} : ρ[n]? = some a → VR g W ρ (.ref n) (.ref a)
  | ty (n : Ty) : VR g W ρ (.ty n) (.ty n.nm)
  | cls (c : String) : VR g W ρ (.cls c) (.ref (g.cls c))
  | rng {lo hi : Int} {a : Addr} : W a = some (.rng lo hi) → VR g W ρ (.rng lo hi) (.ref a)
  | exc {c : String} {ns : List Str} {ds : List D} {a : Addr} {vs : List V} : XcW W (.ref (g.cls c)) ns vs a → ns.length = ds.length → VRs g W ρ ds vs → VR g W ρ (.exc c ns ds) (.ref a)
  | obj {c : String} {ns : List Str} {ds : List D} {a dx : Addr} {vs : List V} : W a = some (.ins (g.cls c) dx (ns.zip vs)) → ns.length = ds.length → VRs g W ρ ds vs → VR g W ρ (.obj c ns ds) (.ref a)
  | dk {ks : List Key} {ds : List D} {a : Addr} {vs : List V} : W a = some (.dK (ks.zip vs)) → ks.length = ds.length → ks.Nodup → VRs g W ρ ds vs → VR g W ρ (.dk ks ds) (.ref a)
  | db {ks : List (List Bool)} {ps : List Addr} {ds : List D} {a : Addr} {vs : List V} : W a = some (DbO a (ks.zip ps) vs) → ks.length = ds.length → KsR g.K W ks ps → VRs g W ρ ds vs → VR g W ρ (.db ks ds) (.ref a)
  | dz {ks : List Key} {ds : List D} {a : Addr} {vs : List V} {od : Obj} : W a = some (.frz od (.dK (ks.zip vs))) → ks.length = ds.length → ks.Nodup → VRs g W ρ ds vs → VR g W ρ (.dz ks ds) (.ref a)
inductive VRs (g : G) (W : Hp) (ρ : List Addr) : List D → List V → Prop
  | nil : VRs g W ρ [] []
  | cons {d : D} {ds : List D} {v : V} {vs : List V} : VR g W ρ d v → VRs g W ρ ds vs → VRs g W ρ (d :: ds) (v :: vs)
end
inductive KR (g : G) (W : Hp) (ρ : List Addr) {κ : Type} : List (κ × D) → List (κ × V) → Prop
  | nil : KR g W ρ [] []
  | cons {k : κ} {d : D} {v : V} {ds : List (κ × D)} {vs : List (κ × V)} : VR g W ρ d v → KR g W ρ ds vs → KR g W ρ ((k, d) :: ds) ((k, v) :: vs)
def OR (g : G) (W : Hp) (ρ : List Addr) (a : Addr) : O → Option HO → Prop
  | .lst ds, o => ∃ vs, o = some (.lst vs) ∧ VRs g W ρ ds vs
  | .dct ks ds, o => ∃ vs, o = some (.dK (ks.zip vs)) ∧ ks.length = ds.length ∧ ks.Nodup ∧ VRs g W ρ ds vs
  | .dtb ks ds, o => ∃ ps vs, o = some (DbO a (ks.zip ps) vs) ∧ ks.length = ds.length ∧ KsR g.K W ks ps ∧ VRs g W ρ ds vs
  | .ins c ns ds, o => ∃ dx vs, o = some (.ins (g.cls c) dx (ns.zip vs)) ∧ ns.length = ds.length ∧ VRs g W ρ ds vs
  | .dead, _ => True
/-- the next world is an extension -/
structure Ex2 (W : Hp) (ρ : List Addr) (W' : Hp) (ρ' : List Addr) : Prop where
  same : ∀ (a : Addr) (o : HO), W a = some o → W' a = some o
  pre : ∀ (n : Nat) (a : Addr), ρ[n]? = some a → ρ'[n]? = some a
theorem Ex2.refl (W : Hp) (ρ : List Addr) : Ex2 W ρ W ρ := ⟨fun _ _ h => h, fun _ _ h => h⟩
theorem Ex2.trans {W W1 W2 : Hp} {ρ ρ1 ρ2 : List Addr} (a : Ex2 W ρ W1 ρ1) (b : Ex2 W1 ρ1 W2 ρ2) : Ex2 W ρ W2 ρ2 :=
  ⟨fun x o h => b.same x o (a.same x o h), fun n x h => b.pre n x (a.pre n x h)⟩
theorem rd_mono {H H' : Hp} {a : Addr} {u : HO} (e : ∀ a o, H a = some o → H' a = some o) (h : Rd H a u) : Rd H' a u := by
  rcases h with h | ⟨o, h⟩
  · exact .inl (e a _ h)
  · exact .inr ⟨o, e a _ h⟩
theorem sqL_mono {K : PySem.W.Frag} {H H' : Hp} {a : Addr} {xs : List V} (e : ∀ a o, H a = some o → H' a = some o) (h : SqL K H a xs) : SqL K H' a xs := by
  rcases h with h | h
  · exact .inl (rd_mono e h)
  · exact .inr h
theorem sqT_mono {K : PySem.W.Frag} {H H' : Hp} {a : Addr} {xs : List V} (e : ∀ a o, H a = some o → H' a = some o) (h : SqT K H a xs) : SqT K H' a xs := by
  rcases h with h | h
  · exact .inl (rd_mono e h)
  · exact .inr h
theorem KsR.mono {K : PySem.W.Frag} {H H' : Hp} (e : ∀ a o, H a = some o → H' a = some o) : ∀ {ks : List (List Bool)} {ps : List Addr}, KsR K H ks ps → KsR K H' ks ps
  | _, _, .nil => .nil
  | _, _, .cons h r => .cons (sqT_mono e h) (KsR.mono e r)
theorem KsR.length {K : PySem.W.Frag} {H : Hp} : ∀ {ks : List (List Bool)} {ps : List Addr}, KsR K H ks ps → ks.length = ps.length
  | _, _, .nil => rfl
  | _, _, .cons _ r => by simp [KsR.length r]
section
variable {g : G} {W W' : Hp} {ρ ρ' : List Addr}
mutual
theorem VR.mono (e : Ex2 W ρ W' ρ') : ∀ {d : D} {v : V}, VR g W ρ d v → VR g W' ρ' d v
  | _, _, .non => .non
  | _, _, .bl b => .bl b
  | _, _, .int i => .int i
  | _, _, .str s => .str s
  | _, _, .tup h r => .tup (sqT_mono e.same h) (VRs.mono e r)
  | _, _, .lst h r => .lst (e.same _ _ h) (VRs.mono e r)
  | _, _, .scr h r => .scr (sqL_mono e.same h) (VRs.mono e r)
  | _, _, .ref h => .ref (e.pre _ _ h)
  | _, _, .ty n => .ty n
  | _, _, .cls c => .cls c
  | _, _, .rng h => .rng (e.same _ _ h)
  | _, _, .exc h l r => .exc (h.mono e.same) l (VRs.mono e r)
  | _, _, .obj h l r => .obj (e.same _ _ h) l (VRs.mono e r)
  | _, _, .dk h l n r => .dk (e.same _ _ h) l n (VRs.mono e r)
  | _, _, .db h l k r => .db (e.same _ _ h) l (k.mono e.same) (VRs.mono e r)
  | _, _, .dz h l n r => .dz (e.same _ _ h) l n (VRs.mono e r)
theorem VRs.mono (e : Ex2 W ρ W' ρ') : ∀ {ds : List D} {vs : List V}, VRs g W ρ ds vs → VRs g W' ρ' ds vs
  | _, _, .nil => .nil
  | _, _, .cons h r => .cons (VR.mono e h) (VRs.mono e r)
end
theorem KR.mono {κ : Type} (e : Ex2 W ρ W' ρ') : ∀ {ds : List (κ × D)} {vs : List (κ × V)}, KR g W ρ ds vs → KR g W' ρ' ds vs
  | _, _, .nil => .nil
  | _, _, .cons h r => .cons (h.mono e) (KR.mono e r)
theorem OR.mono (e : Ex2 W ρ W' ρ') {a : Addr} {o : O} {h : Option HO} (r : OR g W ρ a o h) : OR g W' ρ' a o h := by
  cases o with
  | lst ds => obtain ⟨vs, e1, r⟩ := r; exact ⟨vs, e1, r.mono e⟩
  | dct ks ds => obtain ⟨vs, e1, l, n, r⟩ := r; exact ⟨vs, e1, l, n, r.mono e⟩
  | dtb ks ds => obtain ⟨ps, vs, e1, l, k, r⟩ := r; exact ⟨ps, vs, e1, l, k.mono e.same, r.mono e⟩
  | ins c ns ds => obtain ⟨dx, gs, e1, l, r⟩ := r; exact ⟨dx, gs, e1, l, r.mono e⟩
  | dead => trivial
theorem VRs.length {ds : List D} {vs : List V} (h : VRs g W ρ ds vs) : ds.length = vs.length := by
  induction ds generalizing vs with
  | nil => cases h; rfl
  | cons d ds ih => cases h with | cons h r => simp [ih r]
theorem VRs.append : ∀ {ds es : List D} {vs us : List V}, VRs g W ρ ds vs → VRs g W ρ es us → VRs g W ρ (ds ++ es) (vs ++ us)
  | _, _, _, _, .nil, s => s
  | _, _, _, _, .cons r t, s => .cons r (VRs.append t s)
theorem VRs.get : ∀ {ds : List D} {vs : List V} {i : Nat} {d : D}, VRs g W ρ ds vs → ds[i]? = some d → ∃ v, vs[i]? = some v ∧ VR g W ρ d v
  | _, _, _, _, .nil, e => by simp at e
  | _, _, 0, _, .cons r _, e => by simp at e; subst e; exact ⟨_, rfl, r⟩
  | _, _, i + 1, _, .cons _ t, e => by
    obtain ⟨v, h1, h2⟩ := VRs.get (i := i) t (by simpa using e)
    exact ⟨v, by simpa using h1, h2⟩
theorem VRs.set {d : D} {v : V} (r : VR g W ρ d v) : ∀ {ds : List D} {vs : List V} (i : Nat), VRs g W ρ ds vs → VRs g W ρ (ds.set i d) (vs.set i v)
  | _, _, _, .nil => .nil
  | _, _, 0, .cons _ t => .cons r t
  | _, _, i + 1, .cons q t => .cons q (VRs.set r i t)
theorem VRs.take : ∀ {ds : List D} {vs : List V} (n : Nat), VRs g W ρ ds vs → VRs g W ρ (ds.take n) (vs.take n)
  | _, _, 0, _ => .nil
  | _, _, _ + 1, .nil => .nil
  | _, _, n + 1, .cons r t => .cons r (VRs.take n t)
theorem VRs.drop : ∀ {ds : List D} {vs : List V} (n : Nat), VRs g W ρ ds vs → VRs g W ρ (ds.drop n) (vs.drop n)
  | _, _, 0, r => r
  | _, _, _ + 1, .nil => .nil
  | _, _, n + 1, .cons _ t => VRs.drop n t
theorem VRs.reverse : ∀ {ds : List D} {vs : List V}, VRs g W ρ ds vs → VRs g W ρ ds.reverse vs.reverse
  | _, _, .nil => .nil
  | _, _, .cons r t => by rw [List.reverse_cons, List.reverse_cons]; exact (VRs.reverse t).append (.cons r .nil)
theorem KR.length {κ : Type} : ∀ {ds : List (κ × D)} {vs : List (κ × V)}, KR g W ρ ds vs → ds.length = vs.length
  | _, _, .nil => rfl
  | _, _, .cons _ r => by simp [KR.length r]
end
/-- the next state: an extension, and all that is tracked and not ours stands as it stood -/
structure Ext (W : Hp) (ρ : List Addr) (H : Hp) (W' : Hp) (ρ' : List Addr) (H' : Hp) : Prop where
  ex : Ex2 W ρ W' ρ'
  fr : ∀ (p : Addr) (o : HO), H p = some o → p ∉ ρ → H' p = some o ∧ p ∉ ρ' ∧ (W p = none → W' p = none)
theorem Ext.refl (W : Hp) (ρ : List Addr) (H : Hp) : Ext W ρ H W ρ H := ⟨Ex2.refl W ρ, fun _ _ h n => ⟨h, n, fun z => z⟩⟩
theorem Ext.trans {W W1 W2 : Hp} {ρ ρ1 ρ2 : List Addr} {H H1 H2 : Hp} (a : Ext W ρ H W1 ρ1 H1) (b : Ext W1 ρ1 H1 W2 ρ2 H2) : Ext W ρ H W2 ρ2 H2 :=
  ⟨a.ex.trans b.ex, fun p o h n => by
    obtain ⟨h1, n1, w1⟩ := a.fr p o h n
    obtain ⟨h2, n2, w2⟩ := b.fr p o h1 n1
    exact ⟨h2, n2, fun z => w2 (w1 z)⟩⟩
theorem nodup_ixA {l : List Addr} (hN : l.Nodup) {i j : Nat} {x : Addr} (a : l[i]? = some x) (b : l[j]? = some x) : i = j := by
  obtain ⟨h1, e1⟩ := List.getElem?_eq_some_iff.mp a
  obtain ⟨h2, e2⟩ := List.getElem?_eq_some_iff.mp b
  exact (List.getElem_inj hN).mp (e1.trans e2.symm)
/-- the abstract heap A is borne by H -/
structure Rl (g : G) (W : Hp) (ρ : List Addr) (A : List O) (H : Hp) : Prop where
  ext : ∀ a o, W a = some o → H a = some o
  len : ρ.length = A.length
  nd : ρ.Nodup
  obj : ∀ (n : Nat) (o : O) (a : Addr), A[n]? = some o → ρ[n]? = some a → OR g W ρ a o (H a)
  nw : ∀ (n : Nat) (o : O) (a : Addr), A[n]? = some o → ρ[n]? = some a → o = .dead ∨ W a = none
  al : ∀ (n : Nat) (a : Addr), ρ[n]? = some a → H a ≠ none
section
variable {g : G} {W W' : Hp} {ρ ρ' : List Addr} {A : List O} {H H' : Hp} {p a : Addr} {n : Nat} {o o' : O} {ho : HO}
theorem Rl.fresh (h : Rl g W ρ A H) (hp : H p = none) : W p = none := by
  cases q : W p with
  | none => rfl
  | some o => rw [h.ext p o q] at hp; cases hp
theorem Rl.notin (h : Rl g W ρ A H) (hp : H p = none) : p ∉ ρ := fun hm => by
  obtain ⟨n, hn, e⟩ := List.getElem_of_mem hm
  exact h.al n p (by rw [List.getElem?_eq_getElem hn, e]) hp
/-- something new that is not ours -/
theorem Rl.other (h : Rl g W ρ A H) (hp : H p = none) : Rl g W ρ A (upd H p ho) := by
  have hn := h.notin hp
  have ne : ∀ {n : Nat} {a : Addr}, ρ[n]? = some a → a ≠ p := fun {n a} e z => hn (by rw [← z]; exact List.mem_of_getElem? e)
  refine ⟨fun a o e => ?_, h.len, h.nd, fun n o a h1 h2 => ?_, h.nw, fun n a e => ?_⟩
  · rw [upd_ne (ne_of_none (h.ext a o e) hp)]; exact h.ext a o e
  · rw [upd_ne (ne h2)]; exact h.obj n o a h1 h2
  · rw [upd_ne (ne e)]; exact h.al n a e
/-- a new thing that never changes -/
theorem Rl.newW (h : Rl g W ρ A H) (hp : H p = none) : Ext W ρ H (upd W p ho) ρ (upd H p ho) ∧ Rl g (upd W p ho) ρ A (upd H p ho) := by
  have hw := h.fresh hp
  have hn := h.notin hp
  have e : Ex2 W ρ (upd W p ho) ρ := ⟨fun a o q => by rw [upd_ne (ne_of_none q hw)]; exact q, fun _ _ q => q⟩
  have h2 := h.other (ho := ho) hp
  refine ⟨⟨e, fun q o q1 q2 => ?_⟩, fun a o q => ?_, h.len, h.nd, fun n o a h3 h4 => (h2.obj n o a h3 h4).mono e, fun n o a h3 h4 => ?_, h2.al⟩
  · have z := ne_of_none q1 hp
    exact ⟨by rw [upd_ne z]; exact q1, q2, fun w => by rw [upd_ne z]; exact w⟩
  · by_cases z : a = p
    · subst z; rw [upd_same] at q ⊢; exact q
    · rw [upd_ne z] at q ⊢; exact h.ext a o q
  · rcases h.nw n o a h3 h4 with z | z
    · exact .inl z
    · right; rw [upd_ne (fun z => hn (by rw [← z]; exact List.mem_of_getElem? h4))]; exact z
/-- a new object of ours -/
theorem Rl.new (h : Rl g W ρ A H) (hp : H p = none) (r : OR g W (ρ ++ [p]) p o (some ho)) : Ext W ρ H W (ρ ++ [p]) (upd H p ho) ∧ Rl g W (ρ ++ [p]) (A ++ [o]) (upd H p ho) ∧ (ρ ++ [p])[A.length]? = some p := by
  have hn := h.notin hp
  have e : Ex2 W ρ W (ρ ++ [p]) := ⟨fun _ _ q => q, fun n a q => by
    rw [List.getElem?_append_left (List.getElem?_eq_some_iff.mp q).1]; exact q⟩
  have hl : (ρ ++ [p])[A.length]? = some p := by rw [← h.len]; simp
  refine ⟨⟨e, fun q o q1 q2 => ?_⟩, ⟨?_, ?_, ?_, ?_, ?_, ?_⟩, hl⟩
  · have z := ne_of_none q1 hp
    exact ⟨by rw [upd_ne z]; exact q1, fun m => (List.mem_append.mp m).elim q2 fun m => z (List.mem_singleton.mp m), fun w => w⟩
  · intro a o q
    rw [upd_ne (ne_of_none (h.ext a o q) hp)]; exact h.ext a o q
  · simp [h.len]
  · rw [List.nodup_append]
    refine ⟨h.nd, by simp, fun a ha b hb => ?_⟩
    simp only [List.mem_singleton] at hb
    rintro rfl
    exact hn (hb ▸ ha)
  · intro n o1 a h1 h2
    by_cases hlt : n < A.length
    · rw [List.getElem?_append_left hlt] at h1
      rw [List.getElem?_append_left (by rw [h.len]; exact hlt)] at h2
      rw [upd_ne (fun z => hn (by rw [← z]; exact List.mem_of_getElem? h2))]
      exact (h.obj n o1 a h1 h2).mono e
    · have en : n = A.length := by
        have := (List.getElem?_eq_some_iff.mp h1).1
        simp at this
        omega
      subst en
      rw [hl] at h2; cases h2
      simp at h1; subst h1
      rw [upd_same]; exact r
  · intro n o1 a h1 h2
    by_cases hlt : n < A.length
    · rw [List.getElem?_append_left hlt] at h1
      rw [List.getElem?_append_left (by rw [h.len]; exact hlt)] at h2
      exact h.nw n o1 a h1 h2
    · have en : n = A.length := by
        have := (List.getElem?_eq_some_iff.mp h1).1
        simp at this
        omega
      subst en
      rw [hl] at h2; cases h2
      exact .inr (h.fresh hp)
  · intro n a h2
    by_cases z : a = p
    · subst z; rw [upd_same]; simp
    · rw [upd_ne z]
      have hlt : n < ρ.length := by
        rcases Nat.lt_or_ge n ρ.length with q | q
        · exact q
        · rw [List.getElem?_append_right q] at h2
          have q2 : n - ρ.length = 0 := by
            have := (List.getElem?_eq_some_iff.mp h2).1
            simp at this
            omega
          rw [q2] at h2
          simp at h2
          exact absurd h2.symm z
      rw [List.getElem?_append_left hlt] at h2
      exact h.al n a h2
/-- an object of ours is changed -/
theorem Rl.put (h : Rl g W ρ A H) (h1 : A[n]? = some o) (hd : o ≠ .dead) (h2 : ρ[n]? = some a) (r : OR g W ρ a o' (some ho)) : Rl g W ρ (A.set n o') (upd H a ho) := by
  have wa : W a = none := (h.nw n o a h1 h2).resolve_left hd
  have hn : n < A.length := (List.getElem?_eq_some_iff.mp h1).1
  have inj : ∀ {m : Nat} {b : Addr}, ρ[m]? = some b → m ≠ n → b ≠ a := fun {m b} e z q => z (nodup_ixA h.nd e (by rw [q]; exact h2))
  refine ⟨fun b o e => ?_, by simp [h.len], h.nd, fun m o1 b e1 e2 => ?_, fun m o1 b e1 e2 => ?_, fun m b e => ?_⟩
  · rw [upd_ne (ne_of_none e wa)]; exact h.ext b o e
  · by_cases z : m = n
    · subst z
      rw [List.getElem?_set_self hn] at e1; cases e1
      rw [h2] at e2; cases e2
      rw [upd_same]; exact r
    · rw [List.getElem?_set_ne (Ne.symm z)] at e1
      rw [upd_ne (inj e2 z)]
      exact h.obj m o1 b e1 e2
  · by_cases z : m = n
    · subst z
      rw [h2] at e2; cases e2
      exact .inr wa
    · rw [List.getElem?_set_ne (Ne.symm z)] at e1
      exact h.nw m o1 b e1 e2
  · by_cases z : b = a
    · subst z; rw [upd_same]; simp
    · rw [upd_ne z]; exact h.al m b e
theorem Rl.putE (h2 : ρ[n]? = some a) : Ext W ρ H W ρ (upd H a ho) :=
  ⟨Ex2.refl W ρ, fun q o e n => ⟨by rw [upd_ne (fun z => n (by rw [z]; exact List.mem_of_getElem? h2))]; exact e, n, fun z => z⟩⟩
/-- a list of ours is frozen: from now on a value -/
theorem Rl.freeze {ds : List D} (h : Rl g W ρ A H) (h1 : A[n]? = some (.lst ds)) (h2 : ρ[n]? = some a) : ∃ W', Ext W ρ H W' ρ H ∧ Rl g W' ρ (A.set n .dead) H ∧ VR g W' ρ (.lst ds) (.ref a) := by
  have wa : W a = none := (h.nw n _ a h1 h2).resolve_left (fun z => nomatch z)
  have hn : n < A.length := (List.getElem?_eq_some_iff.mp h1).1
  obtain ⟨vs, e, r⟩ := h.obj n _ a h1 h2
  have ex : Ex2 W ρ (upd W a (.lst vs)) ρ := ⟨fun b o q => by rw [upd_ne (ne_of_none q wa)]; exact q, fun _ _ q => q⟩
  have inj : ∀ {m : Nat} {b : Addr}, ρ[m]? = some b → m ≠ n → b ≠ a := fun {m b} e z q => z (nodup_ixA h.nd e (by rw [q]; exact h2))
  refine ⟨upd W a (.lst vs), ⟨ex, fun q o q1 q2 => ⟨q1, q2, fun w => by rw [upd_ne (fun z => q2 (by rw [z]; exact List.mem_of_getElem? h2))]; exact w⟩⟩, ⟨fun b o q => ?_, by simp [h.len], h.nd, fun m o1 b e1 e2 => ?_, fun m o1 b e1 e2 => ?_, h.al⟩, .lst upd_same (r.mono ex)⟩
  · by_cases z : b = a
    · subst z; rw [upd_same] at q; cases q; exact e
    · rw [upd_ne z] at q; exact h.ext b o q
  · by_cases z : m = n
    · subst z
      rw [List.getElem?_set_self hn] at e1; cases e1
      trivial
    · rw [List.getElem?_set_ne (Ne.symm z)] at e1
      exact (h.obj m o1 b e1 e2).mono ex
  · by_cases z : m = n
    · subst z
      rw [List.getElem?_set_self hn] at e1; cases e1
      exact .inl rfl
    · rw [List.getElem?_set_ne (Ne.symm z)] at e1
      rcases h.nw m o1 b e1 e2 with q | q
      · exact .inl q
      · right; rw [upd_ne (inj e2 z)]; exact q
end
/-! environments -/
structure ER (g : G) (W : Hp) (ρ : List Addr) (σd : Env) (σ : St) : Prop where
  len : σd.length = σ.length
  at_ : ∀ (i : Nat) (d : D), σd[i]? = some (some d) → ∃ v, σ[i]? = some (some v) ∧ VR g W ρ d v
section
variable {g : G} {W W' : Hp} {ρ ρ' : List Addr} {σd : Env} {σ : St}
theorem ER.mono (e : Ex2 W ρ W' ρ') (h : ER g W ρ σd σ) : ER g W' ρ' σd σ := ⟨h.len, fun i d q => let ⟨v, h1, h2⟩ := h.at_ i d q; ⟨v, h1, h2.mono e⟩⟩
theorem ER.set {d : D} {v : V} (h : ER g W ρ σd σ) (i : Nat) (r : VR g W ρ d v) : ER g W ρ (σd.set i (some d)) (σ.set i (some v)) := by
  refine ⟨by simp [h.len], fun j d' q => ?_⟩
  by_cases z : i = j
  · subst z
    by_cases hl : i < σd.length
    · rw [List.getElem?_set_self hl] at q; cases q
      exact ⟨v, by rw [List.getElem?_set_self (by rw [← h.len]; exact hl)], r⟩
    · rw [List.getElem?_eq_none (by simpa using hl)] at q; cases q
  · rw [List.getElem?_set_ne z] at q ⊢
    exact h.at_ j d' q
theorem ER.unset (h : ER g W ρ σd σ) (i : Nat) : ER g W ρ (σd.set i none) (σ.set i none) := by
  refine ⟨by simp [h.len], fun j d' q => ?_⟩
  by_cases z : i = j
  · subst z
    by_cases hl : i < σd.length
    · rw [List.getElem?_set_self hl] at q; cases q
    · rw [List.getElem?_eq_none (by simpa using hl)] at q; cases q
  · rw [List.getElem?_set_ne z] at q ⊢
    exact h.at_ j d' q
theorem ER.start {ds : List D} {vs : List V} {N : List Str} (r : VRs g W ρ ds vs) : ER g W ρ (ds.map some ++ List.replicate (N.length - ds.length) none) (L2.start N vs) := by
  have hl := r.length
  unfold L2.start
  refine ⟨by simp [hl], fun i d q => ?_⟩
  have hi : i < ds.length := by
    by_cases hi : i < ds.length
    · exact hi
    · rw [List.getElem?_append_right (by simpa using hi), List.getElem?_replicate] at q
      split at q <;> cases q
  rw [List.getElem?_append_left (by simpa using hi), List.getElem?_map] at q
  cases e : ds[i]? with
  | none => rw [e] at q; cases q
  | some d' =>
    rw [e] at q; cases q
    obtain ⟨v, h1, h2⟩ := r.get e
    exact ⟨v, by rw [List.getElem?_append_left (by rw [List.length_map, ← hl]; exact hi), List.getElem?_map, h1]; rfl, h2⟩
end
/-! an exception's fields -/
def XF (g : G) (W : Hp) (ρ : List Addr) (H : Hp) (fs : List (Str × D)) (dd : Option Addr) : Prop :=
  (fs = [] ∧ dd = none) ∨ (fs ≠ [] ∧ ∃ d vs, dd = some d ∧ W d = some (.xd ((fs.map (·.1)).zip vs)) ∧ VRs g W ρ (fs.map (·.2)) vs)
/-- what a result asks of what comes behind -/
def Post (g : G) {α β : Type} (rel : Hp → List Addr → α → β → Prop) (EX : WX) (W : Hp) (ρ : List Addr) (H : Hp) (σ : St) (r : R α) (Q : β → Hp → Prop) : Prop :=
  match r with
  | .ok d A => ∀ W' ρ' H' v, Ext W ρ H W' ρ' H' → Rl g W' ρ' A H' → rel W' ρ' d v → Q v H'
  | .ex c fs A => ∀ W' ρ' H' dd, Ext W ρ H W' ρ' H' → Rl g W' ρ' A H' → XF g W' ρ' H' fs dd → EX (.ref (g.cls c)) dd σ H'
  | .no => False
theorem Post.mono {g : G} {α β : Type} {rel : Hp → List Addr → α → β → Prop} {EX : WX} {W W' : Hp} {ρ ρ' : List Addr} {H H' : Hp} {σ : St} {r : R α} {Q : β → Hp → Prop} (e : Ext W ρ H W' ρ' H') (h : Post g rel EX W ρ H σ r Q) : Post g rel EX W' ρ' H' σ r Q := by
  cases r with
  | ok d A => exact fun W2 ρ2 H2 v e2 => h W2 ρ2 H2 v (e.trans e2)
  | ex c fs A => exact fun W2 ρ2 H2 v e2 => h W2 ρ2 H2 v (e.trans e2)
  | no => exact h
/-- a step's post, with the rest of the run inside -/
theorem Post.bind {g : G} {α β γ δ : Type} {rel : Hp → List Addr → α → β → Prop} {rel' : Hp → List Addr → γ → δ → Prop} {EX : WX} {W : Hp} {ρ : List Addr} {H : Hp} {σ : St} {r : R α} {f : α → List O → R γ} {Q : δ → Hp → Prop}
    (h : Post g rel' EX W ρ H σ (r.bind f) Q) : Post g rel EX W ρ H σ r (fun v H' => ∃ W' ρ' A' d, Ext W ρ H W' ρ' H' ∧ Rl g W' ρ' A' H' ∧ rel W' ρ' d v ∧ r = .ok d A' ∧ Post g rel' EX W' ρ' H' σ (f d A') Q) := by
  cases r with
  | ok d A => exact fun W2 ρ2 H2 v e2 R2 r2 => ⟨W2, ρ2, A, d, e2, R2, r2, rfl, Post.mono e2 h⟩
  | ex c fs A => exact h
  | no => exact h
/-- the reading of a semantic function -/
def tM (g : G) {α β : Type} (rel : Hp → List Addr → α → β → Prop) (EX : WX) (m : M α) : St → Hp → (β → Hp → Prop) → Prop := fun σ H Q =>
  ∃ W ρ A σd, Rl g W ρ A H ∧ ER g W ρ σd σ ∧ Post g rel EX W ρ H σ (m σd A) Q
abbrev tE (g : G) (EX : WX) (m : M D) : TE := tM g (VR g) EX m
abbrev tT (g : G) (EX : WX) (m : M Bool) : TT := tM g (fun _ _ a b => a = b) EX m
abbrev tA (g : G) (EX : WX) (m : M (List D)) : TA := tM g (VRs g) EX m
theorem tM.bind {g : G} {α β γ δ : Type} {rel : Hp → List Addr → α → β → Prop} {rel' : Hp → List Addr → γ → δ → Prop} {EX : WX} {σ : St} {H : Hp} {m : M α} {f : Env → α → List O → R γ} {Q : δ → Hp → Prop}
    (h : tM g rel' EX (fun σd A => (m σd A).bind (f σd)) σ H Q) : tM g rel EX m σ H (fun v H' => ∃ W ρ A σd d, Rl g W ρ A H' ∧ ER g W ρ σd σ ∧ rel W ρ d v ∧ Post g rel' EX W ρ H' σ (f σd d A) Q) := by
  obtain ⟨W, ρ, A, σd, hR, hE, hP⟩ := h
  refine ⟨W, ρ, A, σd, hR, hE, ?_⟩
  have h2 := Post.bind (rel := rel) hP
  cases e : m σd A with
  | ok d A' =>
    rw [e] at h2
    intro W2 ρ2 H2 v e2 R2 r2
    obtain ⟨W3, ρ3, A3, d3, e3, R3, r3, _, p3⟩ := h2 W2 ρ2 H2 v e2 R2 r2
    exact ⟨W3, ρ3, A3, σd, d3, R3, hE.mono e3.ex, r3, p3⟩
  | ex c fs A' => rw [e] at h2; exact h2
  | no => rw [e] at h2; exact h2
/-- two steps -/
theorem tM.bind2 {g : G} {α β α' β' γ δ : Type} {rel : Hp → List Addr → α → β → Prop} {rel2 : Hp → List Addr → α' → β' → Prop} {rel' : Hp → List Addr → γ → δ → Prop} {EX : WX} {σ : St} {H : Hp} {m : M α} {m2 : M α'} {f : α → α' → List O → R γ} {Q : δ → Hp → Prop}
    (mono : ∀ {W W' : Hp} {ρ ρ' : List Addr} {d : α} {v : β}, Ex2 W ρ W' ρ' → rel W ρ d v → rel W' ρ' d v)
    (h : tM g rel' EX (fun σd A => (m σd A).bind fun x A => (m2 σd A).bind fun y A => f x y A) σ H Q) :
    tM g rel EX m σ H fun v H1 => tM g rel2 EX m2 σ H1 fun u H2 => ∃ W ρ A x y, Rl g W ρ A H2 ∧ rel W ρ x v ∧ rel2 W ρ y u ∧ Post g rel' EX W ρ H2 σ (f x y A) Q := by
  obtain ⟨W, ρ, A, σd, hR, hE, hP⟩ := h
  refine ⟨W, ρ, A, σd, hR, hE, ?_⟩
  have h2 := Post.bind (rel := rel) hP
  cases e : m σd A with
  | ok d A' =>
    rw [e] at h2
    intro W2 ρ2 H2 v e2 R2 r2
    obtain ⟨W3, ρ3, A3, d3, e3, R3, r3, q3, p3⟩ := h2 W2 ρ2 H2 v e2 R2 r2
    cases q3
    refine ⟨W3, ρ3, A', σd, R3, hE.mono e3.ex, ?_⟩
    have h3 := Post.bind (rel := rel2) p3
    cases e' : m2 σd A' with
    | ok y A4 =>
      rw [e'] at h3
      intro W4 ρ4 H4 u e4 R4 r4
      obtain ⟨W5, ρ5, A5, d5, e5, R5, r5, q5, p5⟩ := h3 W4 ρ4 H4 u e4 R4 r4
      cases q5
      exact ⟨W5, ρ5, A4, d, y, R5, mono e5.ex r3, r5, p5⟩
    | ex c fs A' => rw [e'] at h3; exact h3
    | no => rw [e'] at h3; exact h3
  | ex c fs A' => rw [e] at h2; exact h2
  | no => rw [e] at h2; exact h2
theorem Post.weak {g : G} {α β : Type} {rel : Hp → List Addr → α → β → Prop} {EX : WX} {W : Hp} {ρ : List Addr} {H : Hp} {σ : L2.St} {r : R α} {Q Q' : β → Hp → Prop} (h : Post g rel EX W ρ H σ r Q) (i : ∀ v H, Q v H → Q' v H) : Post g rel EX W ρ H σ r Q' := by
  cases r with
  | ok d A => exact fun W2 ρ2 H2 v e2 R2 r2 => i _ _ (h W2 ρ2 H2 v e2 R2 r2)
  | ex c fs A => exact h
  | no => exact h
theorem tM.weak {g : G} {α β : Type} {rel : Hp → List Addr → α → β → Prop} {EX : WX} {m : M α} {σ : L2.St} {H : Hp} {Q Q' : β → Hp → Prop} (h : tM g rel EX m σ H Q) (i : ∀ v H, Q v H → Q' v H) : tM g rel EX m σ H Q' := by
  obtain ⟨W, ρ, A, σd, hR, hE, hP⟩ := h
  exact ⟨W, ρ, A, σd, hR, hE, hP.weak i⟩
theorem PE.imp {X : Cx} {e : Expr} {t u : TE} (h : PE X e t) (i : ∀ σ H Q, u σ H Q → t σ H Q) : PE X e u := ⟨fun pins s σ H Q I q => h.run pins s σ H Q I (i σ H Q q)⟩
theorem PT.imp {X : Cx} {e : Expr} {t u : TT} (h : PT X e t) (i : ∀ σ H Q, u σ H Q → t σ H Q) : PT X e u := ⟨fun pins s σ H Q I q => h.run pins s σ H Q I (i σ H Q q)⟩
theorem PW.imp {X : Cx} {e : Expr} {t u : TT} (h : PW X e t) (i : ∀ σ H Q, u σ H Q → t σ H Q) : PW X e u := ⟨fun w pins s σ H Q I q => h.run w pins s σ H Q I (i σ H Q q)⟩
theorem PA.imp {X : Cx} {e : List Expr} {t u : TA} (h : PA X e t) (i : ∀ σ H Q, u σ H Q → t σ H Q) : PA X e u := ⟨fun pos pins s σ H Q I q => h.run pos pins s σ H Q I (i σ H Q q)⟩
theorem PS.imp {X : Cx} {e : Stmt} {t u : TS} (h : PS X e t) (i : ∀ D σ H, u D σ H → t D σ H) : PS X e u := ⟨fun pins s σ H D I q => h.run pins s σ H D I (i D σ H q)⟩
theorem PSs.imp {X : Cx} {e : List Stmt} {t u : TS} (h : PSs X e t) (i : ∀ D σ H, u D σ H → t D σ H) : PSs X e u := ⟨fun pins s σ H D I q => h.run pins s σ H D I (i D σ H q)⟩
end Vi
end
section
set_option Elab.async false
set_option linter.all false
set_option maxRecDepth 100000
set_option maxHeartbeats 2000000
namespace Vi
open PySem PySem.Spec L2
/-! simple sources -/
def mVar (i : Nat) : M D := fun σ A => match σ[i]? with
  | some (some d) => .ok d A
  | _ => .no
def mC (d : D) : M D := fun _ A => .ok d A
def m1 (f : D → List O → R D) (ma : M D) : M D := fun σ A => (ma σ A).bind f
def m2 (f : D → D → List O → R D) (ma mb : M D) : M D := fun σ A => (ma σ A).bind fun x A => (mb σ A).bind fun y A => f x y A
def mArgs0 : M (List D) := fun _ A => .ok [] A
def mArgs (ma : M D) (mr : M (List D)) : M (List D) := fun σ A => (ma σ A).bind fun x A => (mr σ A).bind fun xs A => .ok (x :: xs) A
def mA (f : List D → List O → R D) (ma : M (List D)) : M D := fun σ A => (ma σ A).bind f
/-! lists that are read -/
def lstOf (x : D) (A : List O) : Option (List D) := match x with
  | .lst ds => some ds
  | .ref n => match A[n]? with
    | some (.lst ds) => some ds
    | _ => none
  | _ => none
def seqOf (x : D) (A : List O) : Option (List D) := match x with
  | .scr ds => some ds
  | .tup ds => some ds
  | x => lstOf x A
/-- a new list, frozen or ours -/
def newL (fz : Bool) (ds : List D) (A : List O) : R D :=
  if ds.length < sizeLine then (if fz then .ok (.lst ds) A else .ok (.ref A.length) (A ++ [.lst ds])) else .no
section
variable {g : G} {W : Hp} {ρ : List Addr} {A : List O} {H : Hp}
theorem lstOf_ok {x : D} {v : V} {ds : List D} (hR : Rl g W ρ A H) (r : VR g W ρ x v) (h : lstOf x A = some ds) : ∃ a vs, v = .ref a ∧ H a = some (.lst vs) ∧ VRs g W ρ ds vs := by
  cases r with
  | lst h1 r1 => cases h; exact ⟨_, _, rfl, hR.ext _ _ h1, r1⟩
  | @ref n a h1 =>
    unfold lstOf at h
    simp only at h
    split at h
    · rename_i ds' e
      cases h
      obtain ⟨vs, e2, r2⟩ := hR.obj n _ a e h1
      exact ⟨_, _, rfl, e2, r2⟩
    · cases h
  | _ => cases h
theorem sqL_up {a : Addr} {vs : List V} (hR : Rl g W ρ A H) (h : SqL g.K W a vs) : SqL g.K H a vs := sqL_mono hR.ext h
theorem sqT_up {a : Addr} {vs : List V} (hR : Rl g W ρ A H) (h : SqT g.K W a vs) : SqT g.K H a vs := sqT_mono hR.ext h
theorem seqOf_ok {x : D} {v : V} {ds : List D} (hR : Rl g W ρ A H) (r : VR g W ρ x v) (h : seqOf x A = some ds) : ∃ a vs, v = .ref a ∧ (SqL g.K H a vs ∨ SqT g.K H a vs) ∧ VRs g W ρ ds vs := by
  cases r with
  | scr h1 r1 => cases h; exact ⟨_, _, rfl, .inl (sqL_up hR h1), r1⟩
  | tup h1 r1 => cases h; exact ⟨_, _, rfl, .inr (sqT_up hR h1), r1⟩
  | lst h1 r1 => cases h; exact ⟨_, _, rfl, .inl (SqL.of (hR.ext _ _ h1)), r1⟩
  | @ref n a h1 =>
    obtain ⟨a, vs, e, h2, r2⟩ := lstOf_ok hR (.ref h1) h
    exact ⟨a, vs, e, .inl (SqL.of h2), r2⟩
  | _ => cases h
theorem newL_post {EX : WX} {σ : L2.St} {fz : Bool} {ds : List D} {vs : List V} {Q : VK} {p : Addr} (hR : Rl g W ρ A H) (r : VRs g W ρ ds vs) (h : Post g (VR g) EX W ρ H σ (newL fz ds A) Q) (hp : H p = none) : Q (.ref p) (upd H p (.lst vs)) := by
  unfold newL at h
  split at h
  · cases fz with
    | true =>
      obtain ⟨e, R2⟩ := hR.newW (ho := .lst vs) hp
      exact h _ _ _ _ e R2 (.lst upd_same (r.mono e.ex))
    | false =>
      have e0 : Ex2 W ρ W (ρ ++ [p]) := ⟨fun _ _ q => q, fun n a q => by
        rw [List.getElem?_append_left (List.getElem?_eq_some_iff.mp q).1]; exact q⟩
      obtain ⟨e, R2, hl⟩ := hR.new (o := .lst ds) (ho := .lst vs) hp ⟨vs, rfl, r.mono e0⟩
      exact h _ _ _ _ e R2 (.ref hl)
  · exact h.elim
theorem newL_len {EX : WX} {σ : L2.St} {fz : Bool} {ds : List D} {Q : VK} (h : Post g (VR g) EX W ρ H σ (newL fz ds A) Q) : ds.length < sizeLine := by
  unfold newL at h
  split at h
  · assumption
  · exact h.elim
theorem newT_post {EX : WX} {σ : L2.St} {ds : List D} {vs : List V} {Q : VK} {p : Addr} (hR : Rl g W ρ A H) (r : VRs g W ρ ds vs) (h : Post g (VR g) EX W ρ H σ (.ok (.tup ds) A) Q) (hp : H p = none) : Q (.ref p) (upd H p (.tup vs)) := by
  obtain ⟨e, R2⟩ := hR.newW (ho := .tup vs) hp
  exact h _ _ _ _ e R2 (.tup (.inl (.inl upd_same)) (r.mono e.ex))
theorem Post.val {α β : Type} {rel : Hp → List Addr → α → β → Prop} {EX : WX} {σ : L2.St} {d : α} {v : β} {Q : β → Hp → Prop} (hR : Rl g W ρ A H) (r : rel W ρ d v) (h : Post g rel EX W ρ H σ (.ok d A) Q) : Q v H := h _ _ _ _ (Ext.refl W ρ H) hR r
end
/-! data without names of objects -/
def pyFlat : D → Option PyData
  | .non => some .none
  | .bl b => some (.bool b)
  | .int i => some (.int i)
  | .str s => some (.str s)
  | _ => none
def pys (f : D → Option PyData) : List D → Option (List PyData)
  | [] => some []
  | d :: ds => (f d).bind fun x => (pys f ds).map fun xs => x :: xs
def py (A : List O) : Nat → D → Option PyData
  | 0, d => pyFlat d
  | k + 1, d => match d with
    | .tup ds => (pys (py A k) ds).map .tuple
    | .lst ds => (pys (py A k) ds).map .list
    | .scr ds => (pys (py A k) ds).map .list
    | .ref n => match A[n]? with
      | some (.lst ds) => (pys (py A k) ds).map .list
      | _ => none
    | d => pyFlat d
section
variable {g : G} {W : Hp} {ρ : List Addr} {A : List O} {H : Hp}
theorem pys_of {f : D → Option PyData} (one : ∀ {d : D} {v : V} {x : PyData}, VR g W ρ d v → f d = some x → Dp g.K H v x) : ∀ {ds : List D} {vs : List V} {xs : List PyData}, VRs g W ρ ds vs → pys f ds = some xs → DpAll g.K H vs xs
  | _, _, _, .nil, h => by cases h; exact .nil
  | _, _, _, .cons r1 r2, h => by
    obtain ⟨x, h1, h⟩ := Option.bind_eq_some_iff.mp h
    obtain ⟨xs, h2, rfl⟩ := Option.map_eq_some_iff.mp h
    exact .cons (one r1 h1) (pys_of one r2 h2)
theorem pyFlat_ok {d : D} {v : V} {x : PyData} (r : VR g W ρ d v) (h : pyFlat d = some x) : Dp g.K H v x := by
  cases r with
  | non => cases h; exact .non
  | bl b => cases h; exact .bl b
  | int i => cases h; exact .int i
  | str s => cases h; exact .str s
  | _ => cases h
theorem py_ok (hR : Rl g W ρ A H) : ∀ {k : Nat} {d : D} {v : V} {x : PyData}, VR g W ρ d v → py A k d = some x → Dp g.K H v x := by
  intro k
  induction k with
  | zero =>
    intro d v x r h
    exact pyFlat_ok r h
  | succ k ih =>
    intro d v x r h
    cases r with
    | tup h1 r1 =>
      obtain ⟨xs, h2, rfl⟩ := Option.map_eq_some_iff.mp h
      exact .tup (sqT_up hR h1) (pys_of ih r1 h2)
    | lst h1 r1 =>
      obtain ⟨xs, h2, rfl⟩ := Option.map_eq_some_iff.mp h
      exact .lst (SqL.of (hR.ext _ _ h1)) (pys_of ih r1 h2)
    | scr h1 r1 =>
      obtain ⟨xs, h2, rfl⟩ := Option.map_eq_some_iff.mp h
      exact .lst (sqL_up hR h1) (pys_of ih r1 h2)
    | @ref n a h1 =>
      unfold py at h
      simp only at h
      split at h
      · rename_i ds e
        obtain ⟨xs, h2, rfl⟩ := Option.map_eq_some_iff.mp h
        obtain ⟨vs, e2, r2⟩ := hR.obj n _ a e h1
        exact .lst (SqL.of e2) (pys_of ih r2 h2)
      · cases h
    | non => cases h; exact .non
    | bl b => cases h; exact .bl b
    | int i => cases h; exact .int i
    | str s => cases h; exact .str s
    | ty n => cases h
    | cls c => cases h
    | rng h1 => cases h
    | obj => cases h
    | dk => cases h
    | dz => cases h
    | db => cases h
    | exc => cases h
end
/-! an operation by values is what the semantic function says -/
def OpS (g : G) (r : R2) (f : D → D → List O → R D) : Prop :=
  ∀ {EX : WX} {W : Hp} {ρ : List Addr} {A : List O} {H : Hp} {σ : L2.St} {x y : D} {v u : V} {Q : VK}, Rl g W ρ A H → VR g W ρ x v → VR g W ρ y u → Post g (VR g) EX W ρ H σ (f x y A) Q → r v u H Q
def UnS (g : G) (r : V → Hp → VK → Prop) (f : D → List O → R D) : Prop :=
  ∀ {EX : WX} {W : Hp} {ρ : List Addr} {A : List O} {H : Hp} {σ : L2.St} {x : D} {v : V} {Q : VK}, Rl g W ρ A H → VR g W ρ x v → Post g (VR g) EX W ρ H σ (f x A) Q → r v H Q
def CallS (g : G) (r : List V → Hp → VK → Prop) (f : List D → List O → R D) : Prop :=
  ∀ {EX : WX} {W : Hp} {ρ : List Addr} {A : List O} {H : Hp} {σ : L2.St} {xs : List D} {vs : List V} {Q : VK}, Rl g W ρ A H → VRs g W ρ xs vs → Post g (VR g) EX W ρ H σ (f xs A) Q → r vs H Q
section
variable {X : Cx} {c : String → Addr} {EX : WX}
theorem se_var (i : Nat) {x : Str} {pos : Pos} (hN : X.N[i]? = some x := by rfl) (hv : Vis X.env.scope x := by first | exact Or.inl rfl | exact Or.inr (Or.inl rfl) | exact Or.inr (Or.inr rfl)) (hd : (x == ("__debug__" : Str)) = false := by decide)
    (hcd : (x == ("__classdict__" : Str)) = false := by decide) : PE X (.Name x pos) (tE ⟨X.K, c⟩ EX (mVar i)) :=
  PE.imp (pe_var hN hv hd hcd) fun σ H Q h => by
    obtain ⟨W, ρ, A, σd, hR, hE, hP⟩ := h
    unfold mVar at hP
    split at hP
    · rename_i d e
      obtain ⟨v, h1, h2⟩ := hE.at_ i d e
      exact ⟨v, h1, Post.val hR h2 hP⟩
    · exact hP.elim
theorem se_c {e : Expr} {v : V} {d : D} (h : PE X e (tC v)) (r : ∀ W ρ, VR ⟨X.K, c⟩ W ρ d v) : PE X e (tE ⟨X.K, c⟩ EX (mC d)) :=
  PE.imp h fun σ H Q h => by
    obtain ⟨W, ρ, A, σd, hR, hE, hP⟩ := h
    exact Post.val hR (r W ρ) hP
theorem se_int {i j pos} : PE X (.Constant (.int i) j pos) (tE ⟨X.K, c⟩ EX (mC (.int i))) := se_c pe_int fun _ _ => .int i
theorem se_bl {b j pos} : PE X (.Constant (.bool b) j pos) (tE ⟨X.K, c⟩ EX (mC (.bl b))) := se_c pe_bl fun _ _ => .bl b
theorem se_non {j pos} : PE X (.Constant .none j pos) (tE ⟨X.K, c⟩ EX (mC .non)) := se_c pe_non fun _ _ => .non
theorem se_str {x j pos} : PE X (.Constant (.str x) j pos) (tE ⟨X.K, c⟩ EX (mC (.str x))) := se_c pe_str fun _ _ => .str x
/-- a module's int or text -/
theorem se_gint {x : Str} {i : Int} {u : Value} {pos : Pos} (hg : Gl X x) (hm : X.mg x = some u) (r : RelV (.int i) u) (hd : (x == ("__debug__" : Str)) = false := by decide) : PE X (.Name x pos) (tE ⟨X.K, c⟩ EX (mC (.int i))) := se_c (pe_glob hg hm r hd) fun _ _ => .int i
theorem se_gty (n : Ty) {x : Str} {pos : Pos} (hg : Gl X x) (hm : X.mg x = none) (hv : bootBuiltins x = some (.type n.nm)) (hn : x ≠ "__name__" := by decide) (hd : (x == ("__debug__" : Str)) = false := by decide) : PE X (.Name x pos) (tE ⟨X.K, c⟩ EX (mC (.ty n))) :=
  se_c (pe_bltn hg hm hv (v := .ty n.nm) rfl hn hd) fun _ _ => .ty n
variable {a b : Expr} {ma mb : M D} {pos : Pos}
theorem se_op {op : Operator} {r : R2} {f : D → D → List O → R D} (ho : OpR X (binaryOp op) r) (hs : OpS ⟨X.K, c⟩ r f) (ha : PE X a (tE ⟨X.K, c⟩ EX ma)) (hb : PE X b (tE ⟨X.K, c⟩ EX mb)) : PE X (.BinOp a op b pos) (tE ⟨X.K, c⟩ EX (m2 f ma mb)) :=
  PE.imp (pe_op ho ha hb) fun σ H Q h =>
    (tM.bind2 (rel := VR ⟨X.K, c⟩) (rel2 := VR ⟨X.K, c⟩) (m := ma) (m2 := mb) (f := f) (fun e r => VR.mono e r) h).weak fun v H1 q => q.weak fun u H2 ⟨W, ρ, A, x, y, hR, rx, ry, hP⟩ => hs hR rx ry hP
theorem se_un {op : UnaryOp} {r : V → Hp → VK → Prop} {f : D → List O → R D} (ho : UnR X (unaryOp op) r) (hs : UnS ⟨X.K, c⟩ r f) (ha : PE X a (tE ⟨X.K, c⟩ EX ma)) : PE X (.UnaryOp op a pos) (tE ⟨X.K, c⟩ EX (m1 f ma)) :=
  PE.imp (pe_un ho ha) fun σ H Q h =>
    (tM.bind (rel := VR ⟨X.K, c⟩) (m := ma) (f := fun _ => f) h).weak fun v H1 ⟨W, ρ, A, σd, x, hR, hE, rx, hP⟩ => hs hR rx hP
theorem se_cmp {op : CmpOp} {r : R2} {f : D → D → List O → R D} (ho : OpR X (compareOp op) r) (hs : OpS ⟨X.K, c⟩ r f) (ha : PE X a (tE ⟨X.K, c⟩ EX ma)) (hb : PE X b (tE ⟨X.K, c⟩ EX mb)) (hm : behindInMarks op b = false := by first | exact nomark _ | rfl) : PE X (.Compare a [op] [b] pos) (tE ⟨X.K, c⟩ EX (m2 f ma mb)) :=
  PE.imp (pe_cmpR ho ha hb hm) fun σ H Q h =>
    (tM.bind2 (rel := VR ⟨X.K, c⟩) (rel2 := VR ⟨X.K, c⟩) (m := ma) (m2 := mb) (f := f) (fun e r => VR.mono e r) h).weak fun v H1 q => q.weak fun u H2 ⟨W, ρ, A, x, y, hR, rx, ry, hP⟩ => hs hR rx ry hP
/-- a < b < c -/
def mChain (f f' : D → D → List O → R D) (ma mb mc : M D) : M D := fun σ A => (ma σ A).bind fun x A => (mb σ A).bind fun y A => (f x y A).bind fun z A => match z with
  | .bl true => (mc σ A).bind fun w A => f' y w A
  | .bl false => .ok (.bl false) A
  | _ => .no
end
/-! operators -/
def dAdd (fz : Bool) (x y : D) (A : List O) : R D := match x, y with
  | .int i, .int j => .ok (.int (i + j)) A
  | .int i, .bl j => .ok (.int (i + PyProof.Rows.b2i j)) A
  | .str i, .str j => if i.length + j.length ≤ sizeLine then .ok (.str (i ++ j)) A else .no
  | .tup xs, .tup ys => if xs.length + ys.length ≤ sizeLine then .ok (.tup (xs ++ ys)) A else .no
  | x, y => match lstOf x A, lstOf y A with
    | some xs, some ys => newL fz (xs ++ ys) A
    | _, _ => .no
def dSub (x y : D) (A : List O) : R D := match x, y with
  | .int i, .int j => .ok (.int (i - j)) A
  | _, _ => .no
section
noncomputable local instance (priority := 10000) clsc (p : Prop) : Decidable p := Classical.propDecidable p
noncomputable def dMul (x y : D) (A : List O) : R D := match x, y with
  | .int i, .int j => if (-(2 ^ 64) < i ∧ i < 2 ^ 64) ∨ (-(2 ^ 64) < j ∧ j < 2 ^ 64) then .ok (.int (i * j)) A else .no
  | _, _ => .no
noncomputable def dMod (x y : D) (A : List O) : R D := match x, y with
  | .int i, .int j => if 0 < j then .ok (.int (i % j)) A else .no
  | _, _ => .no
noncomputable def dFdiv (x y : D) (A : List O) : R D := match x, y with
  | .int i, .int j => if 0 < j ∧ j.natAbs < 2 ^ 8999 then .ok (.int (i / j)) A else .no
  | _, _ => .no
noncomputable def dPow (x y : D) (A : List O) : R D := match x, y with
  | .int i, .int j => if 0 ≤ j ∧ j ≤ 1000000 ∧ i.natAbs < 2 ^ 64 then .ok (.int (i ^ j.toNat)) A else .no
  | _, _ => .no
noncomputable def dShl (x y : D) (A : List O) : R D := match x, y with
  | .int i, .int j => if 0 ≤ j ∧ j ≤ 1000000 ∧ i.natAbs < 2 ^ 64 then .ok (.int (i * 2 ^ j.toNat)) A else .no
  | _, _ => .no
noncomputable def dShr (x y : D) (A : List O) : R D := match x, y with
  | .int i, .int j => if 0 ≤ j then .ok (.int (i / 2 ^ j.toNat)) A else .no
  | _, _ => .no
end
def dBand (x y : D) (A : List O) : R D := match x, y with
  | .int i, .int j => .ok (.int (Builtin.bitAnd i j)) A
  | _, _ => .no
def dNeg (x : D) (A : List O) : R D := match x with
  | .int i => .ok (.int (-i)) A
  | _ => .no
def dLt (x y : D) (A : List O) : R D := match x, y with
  | .int i, .int j => .ok (.bl (decide (i < j))) A
  | _, _ => .no
def dLe (x y : D) (A : List O) : R D := match x, y with
  | .int i, .int j => .ok (.bl (decide (i ≤ j))) A
  | _, _ => .no
def dGt (x y : D) (A : List O) : R D := match x, y with
  | .int i, .int j => .ok (.bl (decide (j < i))) A
  | _, _ => .no
def dGe (x y : D) (A : List O) : R D := match x, y with
  | .int i, .int j => .ok (.bl (decide (j ≤ i))) A
  | _, _ => .no
def dEqD (x y : D) (A : List O) : R D := match py A 64 x, py A 64 y with
  | some a, some b => if SeqAt.shaped a && SeqAt.shaped b then .ok (.bl (PyData.eqv a b)) A else .no
  | _, _ => .no
def dNeD (x y : D) (A : List O) : R D := match py A 64 x, py A 64 y with
  | some a, some b => if SeqAt.shaped a && SeqAt.shaped b then .ok (.bl (!PyData.eqv a b)) A else .no
  | _, _ => .no
def dEq (x y : D) (A : List O) : R D := match x, y with
  | .str s, .str t => .ok (.bl (decide (s = t))) A
  | x, y => dEqD x y A
def dNe (x y : D) (A : List O) : R D := match x, y with
  | .str s, .str t => .ok (.bl (!decide (s = t))) A
  | x, y => dNeD x y A
def isNon : D → Bool
  | .non => true
  | _ => false
/-- is: None, truths -/
def dIs (x y : D) (A : List O) : R D := match x, y with
  | x, .non => .ok (.bl (isNon x)) A
  | .bl a, .bl b => .ok (.bl (decide (a = b))) A
  | _, _ => .no
def dIsNot (x y : D) (A : List O) : R D := match x, y with
  | x, .non => .ok (.bl (!isNon x)) A
  | .bl a, .bl b => .ok (.bl (!decide (a = b))) A
  | _, _ => .no
def flatD : D → Bool
  | .non | .bl _ | .int _ | .str _ => true
  | _ => false
/-- == of flat things -/
def eqF (x y : D) : Bool := match pyFlat x, pyFlat y with
  | some a, some b => PyData.eqv a b
  | _, _ => false
def dIn (neg : Bool) (x y : D) (A : List O) : R D := match x, y with
  | .str i, .str j => .ok (.bl (if neg then !(!(Builtin.Str.occurrences j i 0 j.length 1).isEmpty) else !(Builtin.Str.occurrences j i 0 j.length 1).isEmpty)) A
  | x, y => match seqOf y A with
    | some ys => if flatD x && ys.all flatD then .ok (.bl (if neg then !(ys.any fun z => eqF z x) else ys.any fun z => eqF z x)) A else .no
    | none => .no
section
variable {g : G} {W : Hp} {ρ : List Addr} {A : List O} {H : Hp}
def rAdd (K : PySem.W.Frag) : R2 := fun x y H Q => ((rI0 fun i j => .int (i + j)) x y H Q ∨ (∃ i k, x = .int i ∧ y = .bl k ∧ Q (.int (i + PyProof.Rows.b2i k)) H)) ∨ ((∃ i j, x = .str i ∧ y = .str j ∧ i.length + j.length ≤ sizeLine ∧ Q (.str (i ++ j)) H) ∨ (rCatA K x y H Q ∨ rCat x y H Q))
theorem op_addD {X : Cx} : OpR X (binaryOp .Add) (rAdd X.K) := (op_add.or op_add_ib).or (op_add_str.or (op_catA.or op_cat))
theorem os_add {fz : Bool} : OpS g (rAdd g.K) (dAdd fz) := by
  intro EX W ρ A H σ x y v u Q hR rx ry h
  have lists : Post g (VR g) EX W ρ H σ (match lstOf x A, lstOf y A with
    | some xs, some ys => newL fz (xs ++ ys) A
    | _, _ => .no) Q → rAdd g.K v u H Q := fun h => by
    split at h
    · rename_i xs ys e1 e2
      obtain ⟨a, vs, rfl, ha, r1⟩ := lstOf_ok hR rx e1
      obtain ⟨b, us, rfl, hb, r2⟩ := lstOf_ok hR ry e2
      refine .inr (.inr (.inr ⟨a, b, vs, us, rfl, rfl, ha, hb, ?_, fun p hp => newL_post hR (r1.append r2) h hp⟩))
      have := newL_len h
      rw [List.length_append] at this
      rw [← r1.length, ← r2.length]
      omega
    · exact h.elim
  cases rx with
  | int i =>
    cases ry with
    | int j => exact .inl (.inl ⟨i, j, rfl, rfl, Post.val hR (.int _) h⟩)
    | bl j => exact .inl (.inr ⟨i, j, rfl, rfl, Post.val hR (.int _) h⟩)
    | _ => exact lists h
  | str i =>
    cases ry with
    | str j =>
      unfold dAdd at h
      simp only at h
      split at h
      · rename_i hl
        exact .inr (.inl ⟨i, j, rfl, rfl, hl, Post.val hR (.str _) h⟩)
      · exact h.elim
    | _ => exact lists h
  | @tup xs a vs h1 r1 =>
    cases ry with
    | @tup ys b us h2 r2 =>
      unfold dAdd at h
      simp only at h
      split at h
      · rename_i hl
        refine .inr (.inr (.inl ⟨a, b, vs, us, rfl, rfl, sqT_up hR h1, sqT_up hR h2, by rw [← r1.length, ← r2.length]; exact hl, fun e => ?_, fun e1 e2 => ?_, fun e1 e2 p hp => ?_⟩))
        · have ex : xs = [] := List.eq_nil_of_length_eq_zero (by rw [r1.length, e]; rfl)
          subst ex
          exact Post.val hR (.tup h2 r2) h
        · have ey : ys = [] := List.eq_nil_of_length_eq_zero (by rw [r2.length, e2]; rfl)
          subst ey
          rw [List.append_nil] at h
          exact Post.val hR (.tup h1 r1) h
        · exact newT_post hR (r1.append r2) h hp
      · exact h.elim
    | _ => exact lists h
  | _ => exact lists h
/-- two ints, a condition -/
theorem os_int {C : Int → Int → Prop} {f : Int → Int → Int} {d : D → D → List O → R D} (hd : ∀ {EX : WX} {W : Hp} {ρ : List Addr} {A : List O} {H : Hp} {σ : L2.St} {x y : D} {Q : VK}, Post g (VR g) EX W ρ H σ (d x y A) Q → ∃ i j, x = .int i ∧ y = .int j ∧ C i j ∧ d x y A = .ok (.int (f i j)) A) :
    OpS g (rI C fun i j => .int (f i j)) d := by
  intro EX W ρ A H σ x y v u Q hR rx ry h
  obtain ⟨i, j, rfl, rfl, hc, e⟩ := hd h
  rw [e] at h
  cases rx; cases ry
  exact ⟨i, j, rfl, rfl, hc, Post.val hR (.int _) h⟩
theorem os_int0 {f : Int → Int → Int} {d : D → D → List O → R D} (hd : ∀ {EX : WX} {W : Hp} {ρ : List Addr} {A : List O} {H : Hp} {σ : L2.St} {x y : D} {Q : VK}, Post g (VR g) EX W ρ H σ (d x y A) Q → ∃ i j, x = .int i ∧ y = .int j ∧ d x y A = .ok (.int (f i j)) A) :
    OpS g (rI0 fun i j => .int (f i j)) d := by
  intro EX W ρ A H σ x y v u Q hR rx ry h
  obtain ⟨i, j, rfl, rfl, e⟩ := hd h
  rw [e] at h
  cases rx; cases ry
  exact ⟨i, j, rfl, rfl, Post.val hR (.int _) h⟩
theorem os_cmp0 {f : Int → Int → Bool} {d : D → D → List O → R D} (hd : ∀ {EX : WX} {W : Hp} {ρ : List Addr} {A : List O} {H : Hp} {σ : L2.St} {x y : D} {Q : VK}, Post g (VR g) EX W ρ H σ (d x y A) Q → ∃ i j, x = .int i ∧ y = .int j ∧ d x y A = .ok (.bl (f i j)) A) :
    OpS g (rI0 fun i j => .bl (f i j)) d := by
  intro EX W ρ A H σ x y v u Q hR rx ry h
  obtain ⟨i, j, rfl, rfl, e⟩ := hd h
  rw [e] at h
  cases rx; cases ry
  exact ⟨i, j, rfl, rfl, Post.val hR (.bl _) h⟩
theorem os_sub : OpS g (rI0 fun i j => .int (i - j)) dSub := os_int0 fun {EX W ρ A H σ x y Q} h => by
  unfold dSub at h ⊢
  split at h
  · exact ⟨_, _, rfl, rfl, rfl⟩
  · exact h.elim
theorem os_mul : OpS g (rI CMul fun i j => .int (i * j)) dMul := os_int fun {EX W ρ A H σ x y Q} h => by
  unfold dMul at h ⊢
  split at h
  · split at h
    · rename_i hc; exact ⟨_, _, rfl, rfl, hc, if_pos hc⟩
    · exact h.elim
  · exact h.elim
theorem os_mod : OpS g (rI (fun _ j => 0 < j) fun i j => .int (i % j)) dMod := os_int fun {EX W ρ A H σ x y Q} h => by
  unfold dMod at h ⊢
  split at h
  · split at h
    · rename_i hc; exact ⟨_, _, rfl, rfl, hc, if_pos hc⟩
    · exact h.elim
  · exact h.elim
theorem os_fdiv : OpS g (rI CDivW fun i j => .int (i / j)) dFdiv := os_int fun {EX W ρ A H σ x y Q} h => by
  unfold dFdiv at h ⊢
  split at h
  · split at h
    · rename_i hc; exact ⟨_, _, rfl, rfl, wide_div (b := 8999) hc.1 hc.2 (by decide) (by decide), if_pos hc⟩
    · exact h.elim
  · exact h.elim
theorem os_pow : OpS g (rI CPow fun i j => .int (i ^ j.toNat)) dPow := os_int fun {EX W ρ A H σ x y Q} h => by
  unfold dPow at h ⊢
  split at h
  · split at h
    · rename_i hc; exact ⟨_, _, rfl, rfl, hc, if_pos hc⟩
    · exact h.elim
  · exact h.elim
theorem us_neg : UnS g (rU fun i => .int (-i)) dNeg := by
  intro EX W ρ A H σ x v Q hR rx h
  cases rx with
  | int i => exact ⟨i, rfl, Post.val hR (.int _) h⟩
  | _ => exact h.elim
theorem os_lt : OpS g (rI0 fun i j => .bl (decide (i < j))) dLt := os_cmp0 fun {EX W ρ A H σ x y Q} h => by
  unfold dLt at h ⊢
  split at h
  · exact ⟨_, _, rfl, rfl, rfl⟩
  · exact h.elim
theorem os_le : OpS g (rI0 fun i j => .bl (decide (i ≤ j))) dLe := os_cmp0 fun {EX W ρ A H σ x y Q} h => by
  unfold dLe at h ⊢
  split at h
  · exact ⟨_, _, rfl, rfl, rfl⟩
  · exact h.elim
theorem os_gt : OpS g (rI0 fun i j => .bl (decide (j < i))) dGt := os_cmp0 fun {EX W ρ A H σ x y Q} h => by
  unfold dGt at h ⊢
  split at h
  · exact ⟨_, _, rfl, rfl, rfl⟩
  · exact h.elim
theorem os_ge : OpS g (rI0 fun i j => .bl (decide (j ≤ i))) dGe := os_cmp0 fun {EX W ρ A H σ x y Q} h => by
  unfold dGe at h ⊢
  split at h
  · exact ⟨_, _, rfl, rfl, rfl⟩
  · exact h.elim
theorem os_eqD : OpS g (rEqD g.K) dEqD := by
  intro EX W ρ A H σ x y v u Q hR rx ry h
  unfold dEqD at h
  split at h
  · rename_i a b e1 e2
    split at h
    · rename_i hs
      obtain ⟨s1, s2⟩ := Bool.and_eq_true_iff.mp hs
      exact ⟨a, b, py_ok hR rx e1, py_ok hR ry e2, s1, s2, Post.val hR (.bl _) h⟩
    · exact h.elim
  · exact h.elim
theorem os_neD : OpS g (rNeD g.K) dNeD := by
  intro EX W ρ A H σ x y v u Q hR rx ry h
  unfold dNeD at h
  split at h
  · rename_i a b e1 e2
    split at h
    · rename_i hs
      obtain ⟨s1, s2⟩ := Bool.and_eq_true_iff.mp hs
      exact ⟨a, b, py_ok hR rx e1, py_ok hR ry e2, s1, s2, Post.val hR (.bl _) h⟩
    · exact h.elim
  · exact h.elim
def rEqS (K : PySem.W.Frag) : R2 := fun x y H Q => rEqD K x y H Q ∨ rEq x y H Q
theorem op_eqS {X : Cx} (hu : X.A.units + 64 < cLine) : OpR X (compareOp .Eq) (rEqS X.K) := (op_eqD hu).or op_eq
theorem os_eq : OpS g (rEqS g.K) dEq := by
  intro EX W ρ A H σ x y v u Q hR rx ry h
  have lists : Post g (VR g) EX W ρ H σ (dEqD x y A) Q → rEqS g.K v u H Q := fun h => .inl (os_eqD hR rx ry h)
  cases rx with
  | str i =>
    cases ry with
    | str j =>
      refine .inr ⟨rfl, ?_⟩
      have e : decide (V.str i = V.str j) = decide (i = j) := by simp
      rw [e]
      exact Post.val hR (.bl _) h
    | _ => exact lists h
  | _ => exact lists (by cases ry <;> exact h)
def rNeS (K : PySem.W.Frag) : R2 := fun x y H Q => rNeD K x y H Q ∨ rNe x y H Q
theorem op_neS {X : Cx} (hu : X.A.units + 64 < cLine) : OpR X (compareOp .NotEq) (rNeS X.K) := (op_neD hu).or op_ne
theorem os_ne : OpS g (rNeS g.K) dNe := by
  intro EX W ρ A H σ x y v u Q hR rx ry h
  have lists : Post g (VR g) EX W ρ H σ (dNeD x y A) Q → rNeS g.K v u H Q := fun h => .inl (os_neD hR rx ry h)
  cases rx with
  | str i =>
    cases ry with
    | str j =>
      refine .inr ⟨rfl, ?_⟩
      have e : decide (V.str i = V.str j) = decide (i = j) := by simp
      rw [e]
      exact Post.val hR (.bl _) h
    | _ => exact lists h
  | _ => exact lists (by cases ry <;> exact h)
end
end Vi
end
section
set_option Elab.async false
set_option linter.all false
set_option maxRecDepth 100000
set_option maxHeartbeats 2000000
namespace Vi
open PySem PySem.Spec L2
section
variable {g : G} {W : Hp} {ρ : List Addr} {A : List O} {H : Hp}
theorem flat_of {d : D} {v : V} (r : VR g W ρ d v) (h : flatD d = true) : flatV v = true := by
  cases r with
  | non | bl | int | str => rfl
  | _ => cases h
theorem eqF_of {d e : D} {v u : V} (r : VR g W ρ d v) (s : VR g W ρ e u) (h1 : flatD d = true) (h2 : flatD e = true) : eqF d e = eqV v u := by
  cases r with
  | non => cases s with
    | non | bl | int | str => rfl
    | _ => cases h2
  | bl => cases s with
    | non | bl | int | str => rfl
    | _ => cases h2
  | int => cases s with
    | non | bl | int | str => rfl
    | _ => cases h2
  | str => cases s with
    | non | bl | int | str => rfl
    | _ => cases h2
  | _ => cases h1
theorem flats_of : ∀ {ds : List D} {vs : List V}, VRs g W ρ ds vs → ds.all flatD = true → vs.all flatV = true
  | _, _, .nil, _ => rfl
  | _, _, .cons r t, h => by
    rw [List.all_cons, Bool.and_eq_true] at h
    rw [List.all_cons, flat_of r h.1, flats_of t h.2]
    rfl
theorem any_of {x : D} {v : V} (r : VR g W ρ x v) (hx : flatD x = true) : ∀ {ds : List D} {vs : List V}, VRs g W ρ ds vs → ds.all flatD = true → (ds.any fun z => eqF z x) = inV v vs
  | _, _, .nil, _ => rfl
  | _, _, .cons q t, h => by
    rw [List.all_cons, Bool.and_eq_true] at h
    rw [List.any_cons, eqF_of q r h.1 hx, any_of r hx t h.2]
    rfl
def rInX (K : PySem.W.Frag) (neg : Bool) : R2 := fun x y H Q => (∃ i j, x = .str i ∧ y = .str j ∧ Q (.bl (if neg then !(!(Builtin.Str.occurrences j i 0 j.length 1).isEmpty) else !(Builtin.Str.occurrences j i 0 j.length 1).isEmpty)) H) ∨ rIn K neg x y H Q
theorem op_inX {X : Cx} : OpR X (compareOp .In) (rInX X.K false) := op_in_str.or op_in_seq
theorem op_notInX {X : Cx} : OpR X (compareOp .NotIn) (rInX X.K true) := op_notin_str.or op_notIn_seq
theorem os_in {neg : Bool} : OpS g (rInX g.K neg) (dIn neg) := by
  intro EX W ρ A H σ x y v u Q hR rx ry h
  have seqs : Post g (VR g) EX W ρ H σ (match seqOf y A with
    | some ys => if flatD x && ys.all flatD then .ok (.bl (if neg then !(ys.any fun z => eqF z x) else ys.any fun z => eqF z x)) A else .no
    | none => .no) Q → rInX g.K neg v u H Q := fun h => by
    split at h
    · rename_i ys e
      split at h
      · rename_i hf
        obtain ⟨f1, f2⟩ := Bool.and_eq_true_iff.mp hf
        obtain ⟨a, vs, rfl, hq, r2⟩ := seqOf_ok hR ry e
        refine .inr ⟨a, vs, rfl, hq, flat_of rx f1, flats_of r2 f2, ?_⟩
        rw [← any_of rx f1 r2 f2]
        exact Post.val hR (.bl _) h
      · exact h.elim
    · exact h.elim
  cases rx with
  | str i =>
    cases ry with
    | str j => exact .inl ⟨i, j, rfl, rfl, Post.val hR (.bl _) h⟩
    | _ => exact seqs h
  | _ => exact seqs h
end
/-! subscripts, slices -/
def dIx (x y : D) (A : List O) : R D := match x, y with
  | .str z, .int i => if z.length ≤ sizeLine then (match atI z.cps.toList i with
    | some c => .ok (.str ⟨#[c]⟩) A
    | none => .no) else .no
  | x, .int i => match seqOf x A with
    | some ds => match atI ds i with
      | some d => .ok d A
      | none => .no
    | none => .no
  | _, _ => .no
def cutD {α : Type} (xs : List α) (lo hi : Option Int) : List α := (xs.drop (HT.sIx xs.length 0 lo)).take (HT.sIx xs.length xs.length hi - HT.sIx xs.length 0 lo)
def dSl (fz : Bool) (x : D) (lo hi : Option Int) (A : List O) : R D := match x with
  | .tup ds => .ok (.tup (cutD ds lo hi)) A
  | .scr ds => newL fz (cutD ds lo hi) A
  | x => match lstOf x A with
    | some ds => newL fz (cutD ds lo hi) A
    | none => .no
section
variable {g : G} {W : Hp} {ρ : List Addr} {A : List O} {H : Hp}
theorem VRs.at {ds : List D} {vs : List V} {i : Int} {d : D} (r : VRs g W ρ ds vs) (h : atI ds i = some d) : ∃ v, atI vs i = some v ∧ VR g W ρ d v := by
  unfold atI at h ⊢
  rw [r.length] at h
  obtain ⟨j, h1, h2⟩ := Option.bind_eq_some_iff.mp h
  obtain ⟨v, h3, h4⟩ := r.get h2
  exact ⟨v, by rw [h1]; exact h3, h4⟩
def rIxX (K : PySem.W.Frag) : R2 := fun x y H Q => rIxL K x y H Q ∨ (rIxT K x y H Q ∨ rIxS x y H Q)
theorem ix_any {X : Cx} : IxR X (rIxX X.K) := ix_list.or (ix_tup.or ix_str)
theorem os_ix : OpS g (rIxX g.K) dIx := by
  intro EX W ρ A H σ x y v u Q hR rx ry h
  cases ry with
  | int i =>
    have seqs : Post g (VR g) EX W ρ H σ (match seqOf x A with
      | some ds => match atI ds i with
        | some d => .ok d A
        | none => .no
      | none => .no) Q → rIxX g.K v (.int i) H Q := fun h => by
      split at h
      · rename_i ds e
        split at h
        · rename_i d e2
          obtain ⟨a, vs, rfl, hq, r2⟩ := seqOf_ok hR rx e
          obtain ⟨z, e3, r3⟩ := r2.at e2
          rcases hq with hq | hq
          · exact .inl ⟨a, vs, i, z, rfl, rfl, hq, e3, Post.val hR r3 h⟩
          · exact .inr (.inl ⟨a, vs, i, z, rfl, rfl, hq, e3, Post.val hR r3 h⟩)
        · exact h.elim
      · exact h.elim
    cases rx with
    | str z =>
      unfold dIx at h
      simp only at h
      split at h
      · rename_i hz
        split at h
        · rename_i c' e
          exact .inr (.inr ⟨z, i, c', rfl, rfl, hz, e, Post.val hR (.str _) h⟩)
        · exact h.elim
      · exact h.elim
    | _ => exact seqs h
  | _ => cases rx <;> exact h.elim
def mSl (fz : Bool) (ma : M D) (ml mh : M (Option Int)) : M D := fun σ A => (ma σ A).bind fun x A => (ml σ A).bind fun lo A => (mh σ A).bind fun hi A => dSl fz x lo hi A
def mNoPart : M (Option Int) := fun _ A => .ok none A
def mPart (ma : M D) : M (Option Int) := fun σ A => (ma σ A).bind fun x A => match x with
  | .int i => .ok (some i) A
  | _ => .no
section
variable {X : Cx} {c : String → Addr} {EX : WX} {ma : M D} {e : Expr}
theorem se_ix {b : Expr} {mb : M D} {pos : Pos} (ha : PE X e (tE ⟨X.K, c⟩ EX ma)) (hb : PE X b (tE ⟨X.K, c⟩ EX mb)) (hs : PlainIx b := by exact fun _ _ => rfl) : PE X (.Subscript e b pos) (tE ⟨X.K, c⟩ EX (m2 dIx ma mb)) :=
  PE.imp (pe_ix ix_any ha hb hs) fun σ H Q h =>
    (tM.bind2 (rel := VR ⟨X.K, c⟩) (rel2 := VR ⟨X.K, c⟩) (m := ma) (m2 := mb) (f := dIx) (fun e r => VR.mono e r) h).weak fun v H1 q => q.weak fun u H2 ⟨W, ρ, A, x, y, hR, rx, ry, hP⟩ => os_ix hR rx ry hP
/-! arguments, displays -/
theorem sa_nil : PA X [] (tA ⟨X.K, c⟩ EX mArgs0) := PA.imp pa_nil fun σ H Q h => by
  obtain ⟨W, ρ, A, σd, hR, hE, hP⟩ := h
  exact Post.val hR .nil hP
theorem sa_cons {es : List Expr} {mr : M (List D)} (ha : PE X e (tE ⟨X.K, c⟩ EX ma)) (hr : PA X es (tA ⟨X.K, c⟩ EX mr)) (hs : starEach (e :: es) X.env = (false, eval e X.env) :: starEach es X.env := by rfl) : PA X (e :: es) (tA ⟨X.K, c⟩ EX (mArgs ma mr)) :=
  PA.imp (pa_cons ha hr hs) fun σ H Q h =>
    (tM.bind2 (rel := VR ⟨X.K, c⟩) (rel2 := VRs ⟨X.K, c⟩) (m := ma) (m2 := mr) (f := fun x xs A => .ok (x :: xs) A) (fun e r => VR.mono e r) h).weak fun v H1 q => q.weak fun u H2 ⟨W, ρ, A, x, y, hR, rx, ry, hP⟩ => Post.val hR (.cons rx ry) hP
def fTup (xs : List D) (A : List O) : R D := if xs.length ≤ sizeLine then .ok (.tup xs) A else .no
variable {es : List Expr} {mr : M (List D)} {pos : Pos}
theorem se_tup {x1} (h : PA X es (tA ⟨X.K, c⟩ EX mr)) : PE X (.Tuple es x1 pos) (tE ⟨X.K, c⟩ EX (mA fTup mr)) :=
  PE.imp (pe_tup h) fun σ H Q h =>
    (tM.bind (rel := VRs ⟨X.K, c⟩) (m := mr) (f := fun _ => fTup) h).weak fun v H1 ⟨W, ρ, A, σd, x, hR, hE, rx, hP⟩ => by
      unfold fTup at hP
      split at hP
      · rename_i hl
        exact ⟨by rw [← rx.length]; exact hl, fun p hp => newT_post hR rx hP hp⟩
      · exact hP.elim
theorem se_lst {fz : Bool} (h : PA X es (tA ⟨X.K, c⟩ EX mr)) : PE X (.List es pos) (tE ⟨X.K, c⟩ EX (mA (newL fz) mr)) :=
  PE.imp (pe_lst h) fun σ H Q h =>
    (tM.bind (rel := VRs ⟨X.K, c⟩) (m := mr) (f := fun _ => newL fz) h).weak fun v H1 ⟨W, ρ, A, σd, x, hR, hE, rx, hP⟩ => by
      have := newL_len hP
      exact ⟨by rw [← rx.length]; omega, fun p hp => newL_post hR rx hP hp⟩
/-- a built-in function -/
theorem se_callB {id : String} {r : List V → Hp → VK → Prop} {f : List D → List O → R D} {x : Str} {p : Pos} (hc : CallR X (.builtin id) r) (hs : CallS ⟨X.K, c⟩ r f) (hg : Gl X x) (hm : X.mg x = none) (hv : bootBuiltins x = some (.builtin id)) (ha : PA X (e :: es) (tA ⟨X.K, c⟩ EX mr))
    (hn : x ≠ "__name__" := by decide) (hdb : (x == ("__debug__" : Str)) = false := by decide)
    (he : starEach (e :: es) X.env = (false, eval e X.env) :: starEach es X.env := by rfl) (hpl : (backTo pos (starEach es X.env)).any (·.1) = false := by rfl) : PE X (.Call (.Name x p) (e :: es) [] pos) (tE ⟨X.K, c⟩ EX (mA f mr)) :=
  PE.imp (pe_callB hc hg hm hv ha hn hdb he hpl) fun σ H Q h =>
    (tM.bind (rel := VRs ⟨X.K, c⟩) (m := mr) (f := fun _ => f) h).weak fun v H1 ⟨W, ρ, A, σd, x, hR, hE, rx, hP⟩ => hs hR rx hP
theorem se_callTy {T : String} {r : List V → Hp → VK → Prop} {f : List D → List O → R D} {x : Str} {p : Pos} (hc : CallR X (.type T) r) (hs : CallS ⟨X.K, c⟩ r f) (hg : Gl X x) (hm : X.mg x = none) (hv : bootBuiltins x = some (.type T)) (ha : PA X (e :: es) (tA ⟨X.K, c⟩ EX mr))
    (hn : x ≠ "__name__" := by decide) (hdb : (x == ("__debug__" : Str)) = false := by decide)
    (he : starEach (e :: es) X.env = (false, eval e X.env) :: starEach es X.env := by rfl) (hpl : (backTo pos (starEach es X.env)).any (·.1) = false := by rfl) : PE X (.Call (.Name x p) (e :: es) [] pos) (tE ⟨X.K, c⟩ EX (mA f mr)) :=
  PE.imp (pe_callTy hc hg hm hv ha hn hdb he hpl) fun σ H Q h =>
    (tM.bind (rel := VRs ⟨X.K, c⟩) (m := mr) (f := fun _ => f) h).weak fun v H1 ⟨W, ρ, A, σd, x, hR, hE, rx, hP⟩ => hs hR rx hP
end
end
end Vi
end
section
set_option Elab.async false
set_option linter.all false
set_option maxRecDepth 100000
set_option maxHeartbeats 2000000
namespace Vi
open PySem PySem.Spec L2
open PyProof.Rows (envOfC)
/-! calls: no repr is under way -/
structure RoomG (k : Nat) (A : Around) : Prop where
  room : Room k A
  gd : A.guards = some []
theorem RoomG.mono {j k : Nat} {A : Around} (r : RoomG k A) (h : j ≤ k) : RoomG j A := ⟨r.room.mono h, r.gd⟩
theorem RoomG.deeper {k : Nat} {A : Around} (r : RoomG (k + 1) A) (env : PySem.Env) : RoomG k (A.deeper env) := ⟨r.room.deeper env, r.gd⟩
/-- a def of the text, its defaults whatever -/
structure FunX (K : PySem.W.Frag) (x qual : Str) (st : Stmt) (f : Addr) (fd : FuncData) : Prop where
  ex : ∃ (oc : Value) (od : Option Addr) (dV kV doc pm : Value) (an : Option Addr) (cdv ct : Value) (osl : Array (Option Value)),
    fd = PySem.W.fnOf x qual (defArgs st) (defBody st) (defScope st) dV kV doc pm an cdv ct ∧ K.lookup f = some ⟨oc, od, .func fd, osl⟩ ∧ PySem.W.codeIn K cdv qual = true
  kp : PySem.W.keepIn K (.ref f) = true
theorem funx_mk {K : PySem.W.Frag} {x qual : Str} {st : Stmt} {f : Addr} {oc : Value} {od an : Option Addr} {osl : Array (Option Value)} {dV kV doc pm cdv ct : Value} (l : K.lookup f = some ⟨oc, od, .func (PySem.W.fnOf x qual (defArgs st) (defBody st) (defScope st) dV kV doc pm an cdv ct), osl⟩)
    (c : PySem.W.codeIn K cdv qual = true) (k : PySem.W.keepIn K (.ref f) = true) : FunX K x qual st f (PySem.W.fnOf x qual (defArgs st) (defBody st) (defScope st) dV kV doc pm an cdv ct) := ⟨⟨oc, od, dV, kV, doc, pm, an, cdv, ct, osl, rfl, l, c⟩, k⟩
structure FnG (P : Program) (w : World) (K : PySem.W.Frag) (mg : Str → Option Value) (base : Heap) (k : Nat) (f : Addr) (fd : FuncData) (ps : List Str) (sp : Sp) : Prop where
  len : ∀ vs H Q E, sp vs H Q E → vs.length = ps.length
  run : ∀ (A : Around) (outer : List PySem.Env) (s : Shared) (H : Hp) (args : Args) (us : List Value) (vs : List V) (Q : VK) (E : XK), RoomG k A → Env0 P w K mg base A outer s H → BindsTo s fd args (ps.zip us) → Vals vs us → sp vs H Q E →
    codeAny (model P w) A (.call (.ref f) args) (CR (L2.CX P w) outer P w H s Q E) s
theorem FnG.mono {P : Program} {w : World} {K : PySem.W.Frag} {mg : Str → Option Value} {base : Heap} {j k : Nat} {f : Addr} {fd : FuncData} {ps : List Str} {sp : Sp} (F : FnG P w K mg base j f fd ps sp) (h : j ≤ k) :
    FnG P w K mg base k f fd ps sp := ⟨F.len, fun A outer s H args us vs Q E r => F.run A outer s H args us vs Q E (r.mono h)⟩
section
variable {P : Program} {w : World} {K : PySem.W.Frag} {mg : Str → Option Value} {base : Heap}
/-- a def of the text, by its body -/
theorem fnG_of {x qual : Str} {st : Stmt} {f : Addr} {fd : FuncData} {N ps : List Str} {k : Nat} {sp : Sp} (F : FunX K x qual st f fd) (S : FnScope N ps (defScope st)) (len : ∀ vs H Q E, sp vs H Q E → vs.length = ps.length)
    (hbody : ∀ (cdv : Value) (A : Around) (outer : List PySem.Env) (s : Shared) (H : Hp) (vs : List V) (Q : VK) (E : XK), RoomG k (A.deeper (envOfC qual (defScope st) s.heap.objs.size f cdv)) → sp vs H Q E →
      ∃ t, PSs (cxOf (L2.CX P w) P w K mg base N qual (defScope st) f cdv A outer s H E) (defBody st) t ∧ t { nx := fun _ H' => Q .non H', rt := Q } (L2.start N vs) H) : FnG P w K mg base (k + 1) f fd ps sp := by
  obtain ⟨oc, od, dV, kV, doc, pm, an, cdv, ct, osl, rfl, lk, hcd⟩ := F.ex
  refine ⟨len, fun A outer s H args us vs Q E hr e0 hb r hsp => ?_⟩
  have hl := len _ _ _ _ hsp
  have KX : K.In s.heap := e0.mod.kin.keeps fun b o e => (e0.bs b o e).1
  have lim : s.heap.NoLimit := e0.mod.nolimit.keeps fun b o e => (e0.bs b o e).1
  have hk : ∀ y ∈ ps.zip us, (defScope st).names.lookup y.1 = some .local ∨ ((defScope st).names.lookup y.1 = some .cell ∧ ((cellsFrom (s.heap.objs.size + 1) (defScope st).names []).lookup y.1).isSome = true) := by
    rintro ⟨n, v⟩ hy
    rcases S.par n (List.of_mem_zip hy).1 with q | q
    · exact .inl q
    · exact .inr ⟨q, PySem.W.cellsFrom_some _ _ _ (.inl q)⟩
  refine codeAny_call_function hr.room.depth (KX _ _ lk) rfl S.co S.gen rfl
    (PySem.W.codeRec_of KX hcd) (hb _ _ _ _ ?_)
  refine wpAny_newFunctionEnv_cells S.kind hk fun env he s1 x => ?_
  subst he
  refine ⟨lim.keeps x.toInCall.keep, codeAny_func ?_⟩
  obtain ⟨t, ht, hq⟩ := hbody cdv A outer s H vs Q E (hr.deeper _) hsp
  have I := inv_start (CX := L2.CX P w) (E := E) (qual := qual) (f := f) (cd := cdv) S hr.room.hd e0 hl r x
  refine wpAny_mono (ht.run [] s1 (L2.start N vs) H _ I hq) (fun fl s' hs => ?_) fun e s' hs => hs
  have fin : ∀ {σ' : L2.St} {H' : Hp} {v : V} {u : Value}, Inv (cxOf (L2.CX P w) P w K mg base N qual (defScope st) f cdv A outer s H E) [] σ' H' s' → RelV v u → Q v H' → CE outer P w H s Q u s' := by
    intro σ' H' v u J rv q
    exact ⟨v, H', J.os, J.bare, J.base, J.hok, rv, q⟩
  cases fl with
  | ret u =>
    obtain ⟨v, σ', H', J, rv, q⟩ := hs
    exact fin J rv q
  | next =>
    obtain ⟨σ', H', J, q⟩ := hs
    exact fin (v := V.non) (u := Value.none) J rfl q
  | brk => obtain ⟨_, _, _, q⟩ := hs; exact q.elim
  | cont => obtain ⟨_, _, _, q⟩ := hs; exact q.elim
end
/-- the promise of a semantic function -/
def spG (g : G) (n : Nat) (m : List D → List O → R D) : Sp := fun vs H Q E =>
  vs.length = n ∧ ∃ W ρ A ds, Rl g W ρ A H ∧ VRs g W ρ ds vs ∧ Post g (VR g) (fun c d _ H' => E c d H') W ρ H [] (m ds A) Q
section
variable {X : Cx} {c : String → Addr} {EX : WX} {k n : Nat} {f : Addr} {fd : FuncData} {ps : List Str} {dds : List D} {ds : List Value} {x : Str} {p pos : Pos} {e : Expr} {es : List Expr} {mr : M (List D)}
  {m : List D → List O → R D}
/-- an exception of a callee is taken by the caller's wish -/
theorem passesG {W : WX} (tk : Takes X W) (σ : L2.St) : PassesAt (L2.CX X.prog X.w) X σ (fun c d H => W c d σ H) := passAt tk σ
theorem run_fnG {sp : Sp} {dvs : List V} {E : L2.St → XK} {pins : List (Addr × Obj)} {σ : L2.St} {H : Hp} {s : Shared} {Q : VK} {us : List Value} {vs : List V} (F : FnG X.prog X.w X.K X.mg X.base k f fd ps sp) (hr : RoomG k X.A) (hb : Binds X.K fd ps ds) (hd : Vals dvs ds) (hx : PassesAt (L2.CX X.prog X.w) X σ (E σ))
    (I : Inv X pins σ H s) (r : Vals vs us) (h : sp (vs ++ dvs) H Q (E σ)) : wpAny (model X.prog X.w) X.A (call (.ref f) us) (EP X pins σ Q) X.xe s := by
  have r2 : Vals (vs ++ dvs) (us ++ ds) := r.append hd
  have hl : (us ++ ds).length = ps.length := by rw [← r2.length]; exact F.len _ _ _ _ h
  refine wpAny_call (codeAny_mono (F.run X.A X.stack s H ⟨us, []⟩ (us ++ ds) (vs ++ dvs) Q (E σ) hr I.env0 (hb s us I.kIn hl) r2 h) fun r s' hq => ?_)
  match r, hq with
  | .error e, hq => exact hx pins H s e s' I hq
  | .ok (.ret u), hq => exact I.after hq
  | .ok .next, hq => exact hq.elim
  | .ok .brk, hq => exact hq.elim
  | .ok .cont, hq => exact hq.elim
/-- f(e, ..), the defaults dds behind -/
def mCall (m : List D → List O → R D) (dds : List D) (mr : M (List D)) : M D := fun σ A => (mr σ A).bind fun xs A => m (xs ++ dds) A
theorem se_call {dvs : List V} (F : FnG X.prog X.w X.K X.mg X.base k f fd ps (spG ⟨X.K, c⟩ n m)) (hr : RoomG k X.A) (hg : Gl X x) (hm : X.mg x = some (.ref f)) (hk : PySem.W.keepIn X.K (.ref f) = true) (hb : Binds X.K fd ps ds) (hd : Vals dvs ds) (hdd : ∀ W ρ, VRs ⟨X.K, c⟩ W ρ dds dvs) (hn : es.length + 1 + dds.length = n) (tk : Takes X EX)
    (ha : PA X (e :: es) (tA ⟨X.K, c⟩ EX mr)) (hlen : ∀ σ A xs A', mr σ A = .ok xs A' → xs.length = es.length + 1) (hdb : (x == ("__debug__" : Str)) = false := by decide) (he : starEach (e :: es) X.env = (false, eval e X.env) :: starEach es X.env := by rfl) (hpl : (backTo pos (starEach es X.env)).any (·.1) = false := by rfl) :
    PE X (.Call (.Name x p) (e :: es) [] pos) (tE ⟨X.K, c⟩ EX (mCall m dds mr)) := by
  refine ⟨fun pins s σ H Q I h => ?_⟩
  refine wpAny_Call_Name_kw (ld_glob I hg hm ?_ hdb)
  obtain ⟨W, ρ, A, σd, hR, hE, hP⟩ := h
  have h2 : tA ⟨X.K, c⟩ EX mr σ H (fun vs H' => vs.length = es.length + 1 ∧ ∃ W' ρ' A' xs, Rl ⟨X.K, c⟩ W' ρ' A' H' ∧ VRs ⟨X.K, c⟩ W' ρ' xs vs ∧ Post ⟨X.K, c⟩ (VR ⟨X.K, c⟩) EX W' ρ' H' σ (m (xs ++ dds) A') Q) :=
    ⟨W, ρ, A, σd, hR, hE, (Post.bind (rel := VRs ⟨X.K, c⟩) hP).weak fun v H' ⟨W', ρ', A', xs, _, R', r', eq, P'⟩ => ⟨by rw [← r'.length]; exact hlen _ _ _ _ eq, W', ρ', A', xs, R', r', P'⟩⟩
  refine PySem.W.callWith_K (h₀ := X.base) I.ok.mod.kin hk (thn (ha.run pos pins s σ H _ I h2) fun us s1 ⟨vs, H1, I1, r, q⟩ => ⟨I1.kIn, ?_⟩) he hpl
  obtain ⟨lv, W', ρ', A', xs, R', r', P'⟩ := q
  refine run_fnG (E := fun σ c d H => EX c d σ H) F hr hb hd (passesG tk σ) I1 r ?_
  refine ⟨?_, W', ρ', A', xs ++ dds, R', r'.append (hdd _ _), ?_⟩
  · rw [List.length_append, lv, ← (hdd W' ρ').length]; exact hn
  · have P2 := P'
    cases em : m (xs ++ dds) A' with
    | ok d A2 => rw [em] at P2; exact P2
    | ex c' fs A2 => rw [em] at P2; exact P2
    | no => rw [em] at P2; exact P2
end
theorem mArgs0_len {σ : Env} {A A' : List O} {xs : List D} (h : mArgs0 σ A = .ok xs A') : xs.length = 0 := by
  unfold mArgs0 at h; cases h; rfl
theorem mArgs_len {n : Nat} {ma : M D} {mr : M (List D)} (hr : ∀ σ A xs A', mr σ A = .ok xs A' → xs.length = n) : ∀ σ A xs A', mArgs ma mr σ A = .ok xs A' → xs.length = n + 1 := by
  intro σ A xs A' h
  unfold mArgs at h
  cases e : ma σ A with
  | ok x A1 =>
    rw [e] at h
    simp only [R.bind_ok] at h
    cases e2 : mr σ A1 with
    | ok ys A2 =>
      rw [e2] at h
      simp only [R.bind_ok] at h
      cases h
      rw [List.length_cons, hr _ _ _ _ e2]
    | ex c fs A2 => rw [e2] at h; cases h
    | no => rw [e2] at h; cases h
  | ex c fs A1 => rw [e] at h; cases h
  | no => rw [e] at h; cases h
end Vi
end
section
set_option Elab.async false
set_option linter.all false
set_option maxRecDepth 100000
set_option maxHeartbeats 2000000
namespace Vi
open PySem PySem.Spec L2
/-! tests -/
def dTru (x : D) (A : List O) : R Bool := match x with
  | .non => .ok false A
  | .bl b => .ok b A
  | .int i => .ok (i != 0) A
  | .str s => if s.length ≤ sizeLine then .ok ((s.length : Int) != 0) A else .no
  | .tup ds => .ok (!ds.isEmpty) A
  | .lst ds => .ok (!ds.isEmpty) A
  | .scr ds => .ok (!ds.isEmpty) A
  | .ref n => match A[n]? with
    | some (.lst ds) => .ok (!ds.isEmpty) A
    | some (.dct ks _) => .ok (!ks.isEmpty) A
    | _ => .no
  | _ => .no
def mTru (ma : M D) : M Bool := fun σ A => (ma σ A).bind dTru
def mBl (ma : M D) : M Bool := fun σ A => (ma σ A).bind fun x A => match x with
  | .bl b => .ok b A
  | _ => .no
def mNotT (mt : M Bool) : M Bool := fun σ A => (mt σ A).bind fun b A => .ok (!b) A
def mAndT (m1 m2 : M Bool) : M Bool := fun σ A => (m1 σ A).bind fun b A => if b then m2 σ A else .ok false A
def mOrT (m1 m2 : M Bool) : M Bool := fun σ A => (m1 σ A).bind fun b A => if b then .ok true A else m2 σ A
def mIte (mt : M Bool) (ma mb : M D) : M D := fun σ A => (mt σ A).bind fun b A => if b then ma σ A else mb σ A
def mAnd (ma mb : M D) : M D := fun σ A => (ma σ A).bind fun x A => match x with
  | .bl true => mb σ A
  | .bl false => .ok (.bl false) A
  | _ => .no
def mOr (ma mb : M D) : M D := fun σ A => (ma σ A).bind fun x A => match x with
  | .bl true => .ok (.bl true) A
  | .bl false => mb σ A
  | _ => .no
def dNot (x : D) (A : List O) : R D := match x with
  | .bl b => .ok (.bl (!b)) A
  | _ => .no
theorem VRs.emp {g : G} {W : Hp} {ρ : List Addr} {ds : List D} {vs : List V} (r : VRs g W ρ ds vs) : ds.isEmpty = vs.isEmpty := by
  cases r <;> rfl
theorem KR.emp {κ : Type} {g : G} {W : Hp} {ρ : List Addr} {ds : List (κ × D)} {vs : List (κ × V)} (r : KR g W ρ ds vs) : ds.isEmpty = vs.isEmpty := by
  cases r <;> rfl
theorem tru_of {g : G} {W : Hp} {ρ : List Addr} {A : List O} {H : Hp} {EX : WX} {σ : L2.St} {x : D} {v : V} {Q : Bool → Hp → Prop} (hR : Rl g W ρ A H) (r : VR g W ρ x v) (h : Post g (fun _ _ a b => a = b) EX W ρ H σ (dTru x A) Q) : ∃ k, TruV g.K v H k ∧ Q k H := by
  cases r with
  | non => exact ⟨false, rfl, Post.val hR rfl h⟩
  | bl b => exact ⟨b, rfl, Post.val hR rfl h⟩
  | int i => exact ⟨_, rfl, Post.val hR rfl h⟩
  | str s =>
    unfold dTru at h
    simp only at h
    split at h
    · rename_i hz
      exact ⟨_, ⟨hz, rfl⟩, Post.val hR rfl h⟩
    · exact h.elim
  | tup h1 r1 => exact ⟨_, .inr (.inl ⟨_, sqT_up hR h1, by rw [r1.emp]⟩), Post.val hR rfl h⟩
  | lst h1 r1 => exact ⟨_, .inl ⟨_, SqL.of (hR.ext _ _ h1), by rw [r1.emp]⟩, Post.val hR rfl h⟩
  | scr h1 r1 => exact ⟨_, .inl ⟨_, sqL_up hR h1, by rw [r1.emp]⟩, Post.val hR rfl h⟩
  | @ref n a h1 =>
    unfold dTru at h
    simp only at h
    split at h
    · rename_i ds e
      obtain ⟨vs, e2, r2⟩ := hR.obj n _ a e h1
      exact ⟨_, .inl ⟨_, SqL.of e2, by rw [r2.emp]⟩, Post.val hR rfl h⟩
    · rename_i ks ds e
      obtain ⟨vs, e2, l2, _, r2⟩ := hR.obj n _ a e h1
      exact ⟨_, .inr (.inr ⟨_, e2, by
        have := l2.trans r2.length
        cases ks with
        | nil => rfl
        | cons k ks => cases vs with
          | nil => simp at this
          | cons v vs => rfl⟩), Post.val hR rfl h⟩
    · exact h.elim
  | _ => exact h.elim
section
variable {X : Cx} {c : String → Addr} {EX : WX} {a b : Expr} {rest : List Expr} {ma mb : M D} {t1 t2 : M Bool} {pos : Pos}
theorem st_val (ha : PE X a (tE ⟨X.K, c⟩ EX ma)) (he : ∀ whole, isTrue a X.env whole = (do let v ← whole; standAt a.pos; holding [v] (truthy v)) := by intro _; rfl) : PT X a (tT ⟨X.K, c⟩ EX (mTru ma)) :=
  PT.imp (pt_truth ha he) fun σ H Q h => (tM.bind (rel := VR ⟨X.K, c⟩) (m := ma) (f := fun _ => dTru) h).weak fun v H1 ⟨W, ρ, A, σd, x, hR, hE, rx, hP⟩ => tru_of hR rx hP
theorem test_of {m : M D} {σ : L2.St} {H : Hp} {Q : Bool → Hp → Prop} (h : tT ⟨X.K, c⟩ EX (mBl m) σ H Q) : tE ⟨X.K, c⟩ EX m σ H (fun x H' => ∃ k, x = .bl k ∧ Q k H') :=
  (tM.bind (rel := VR ⟨X.K, c⟩) (m := m) h).weak fun v H1 ⟨W, ρ, A, σd, x, hR, hE, rx, hP⟩ => by
    cases rx with
    | bl b => exact ⟨b, rfl, Post.val hR rfl hP⟩
    | _ => exact hP.elim
theorem st_cmp {op : CmpOp} {r : R2} {f : D → D → List O → R D} (ho : OpR X (compareOp op) r) (hs : OpS ⟨X.K, c⟩ r f) (ha : PE X a (tE ⟨X.K, c⟩ EX ma)) (hb : PE X b (tE ⟨X.K, c⟩ EX mb)) (hm : behindInMarks op b = false := by first | exact nomark _ | rfl) : PT X (.Compare a [op] [b] pos) (tT ⟨X.K, c⟩ EX (mBl (m2 f ma mb))) :=
  PT.imp (pt_cmpR ho ha hb hm) fun σ H Q h =>
    (tM.bind2 (rel := VR ⟨X.K, c⟩) (rel2 := VR ⟨X.K, c⟩) (m := ma) (m2 := mb) (f := f) (fun e r => VR.mono e r) (test_of h)).weak fun v H1 q => q.weak fun u H2 ⟨W, ρ, A, x, y, hR, rx, ry, hP⟩ => hs hR rx ry hP
theorem st_not (ha : PT X a (tT ⟨X.K, c⟩ EX t1)) : PT X (.UnaryOp .Not a pos) (tT ⟨X.K, c⟩ EX (mNotT t1)) :=
  PT.imp (pt_not ha) fun σ H Q h => (tM.bind (rel := fun _ _ a b => a = b) (m := t1) (f := fun _ b A => .ok (!b) A) h).weak fun v H1 ⟨W, ρ, A, σd, x, hR, hE, rx, hP⟩ => by
    subst rx
    exact Post.val hR rfl hP
theorem sw_and1 (ha : PT X a (tT ⟨X.K, c⟩ EX t1)) : PW X (.BoolOp .And [a] pos) (tT ⟨X.K, c⟩ EX t1) := pw_and1 ha
theorem sw_or1 (ha : PT X a (tT ⟨X.K, c⟩ EX t1)) : PW X (.BoolOp .Or [a] pos) (tT ⟨X.K, c⟩ EX t1) := pw_or1 ha
theorem sw_and (ha : PT X a (tT ⟨X.K, c⟩ EX t1)) (hb : PW X (.BoolOp .And (b :: rest) pos) (tT ⟨X.K, c⟩ EX t2)) : PW X (.BoolOp .And (a :: b :: rest) pos) (tT ⟨X.K, c⟩ EX (mAndT t1 t2)) :=
  PW.imp (pw_and ha hb) fun σ H Q h => (tM.bind (rel := fun _ _ a b => a = b) (m := t1) (f := fun σ b A => if b then t2 σ A else .ok false A) h).weak fun v H1 ⟨W, ρ, A, σd, x, hR, hE, rx, hP⟩ => by
    subst rx
    cases x with
    | true => exact ⟨W, ρ, A, σd, hR, hE, hP⟩
    | false => exact Post.val (d := false) hR rfl hP
theorem sw_or (ha : PT X a (tT ⟨X.K, c⟩ EX t1)) (hb : PW X (.BoolOp .Or (b :: rest) pos) (tT ⟨X.K, c⟩ EX t2)) : PW X (.BoolOp .Or (a :: b :: rest) pos) (tT ⟨X.K, c⟩ EX (mOrT t1 t2)) :=
  PW.imp (pw_or ha hb) fun σ H Q h => (tM.bind (rel := fun _ _ a b => a = b) (m := t1) (f := fun σ b A => if b then .ok true A else t2 σ A) h).weak fun v H1 ⟨W, ρ, A, σd, x, hR, hE, rx, hP⟩ => by
    subst rx
    cases x with
    | true => exact Post.val (d := true) hR rfl hP
    | false => exact ⟨W, ρ, A, σd, hR, hE, hP⟩
theorem se_ite {t : Expr} (ht : PT X t (tT ⟨X.K, c⟩ EX t1)) (ha : PE X a (tE ⟨X.K, c⟩ EX ma)) (hb : PE X b (tE ⟨X.K, c⟩ EX mb)) : PE X (.IfExp t a b pos) (tE ⟨X.K, c⟩ EX (mIte t1 ma mb)) :=
  PE.imp (pe_ifExp ht ha hb) fun σ H Q h => (tM.bind (rel := fun _ _ a b => a = b) (m := t1) (f := fun σ b A => if b then ma σ A else mb σ A) h).weak fun v H1 ⟨W, ρ, A, σd, x, hR, hE, rx, hP⟩ => by
    subst rx
    cases x with
    | true => exact ⟨W, ρ, A, σd, hR, hE, hP⟩
    | false => exact ⟨W, ρ, A, σd, hR, hE, hP⟩
theorem se_one {op} (ha : PE X a (tE ⟨X.K, c⟩ EX ma)) : PE X (.BoolOp op [a] pos) (tE ⟨X.K, c⟩ EX ma) := pe_one ha
theorem se_and (ha : PE X a (tE ⟨X.K, c⟩ EX ma)) (hb : PE X (.BoolOp .And (b :: rest) pos) (tE ⟨X.K, c⟩ EX mb)) : PE X (.BoolOp .And (a :: b :: rest) pos) (tE ⟨X.K, c⟩ EX (mAnd ma mb)) :=
  PE.imp (pe_and ha hb) fun σ H Q h => (tM.bind (rel := VR ⟨X.K, c⟩) (m := ma) h).weak fun v H1 ⟨W, ρ, A, σd, x, hR, hE, rx, hP⟩ => by
    cases rx with
    | bl k =>
      refine ⟨k, rfl, ?_⟩
      cases k with
      | true => exact ⟨W, ρ, A, σd, hR, hE, hP⟩
      | false => exact Post.val (d := D.bl false) hR (.bl false) hP
    | _ => exact hP.elim
theorem se_or (ha : PE X a (tE ⟨X.K, c⟩ EX ma)) (hb : PE X (.BoolOp .Or (b :: rest) pos) (tE ⟨X.K, c⟩ EX mb)) : PE X (.BoolOp .Or (a :: b :: rest) pos) (tE ⟨X.K, c⟩ EX (mOr ma mb)) :=
  PE.imp (pe_or ha hb) fun σ H Q h => (tM.bind (rel := VR ⟨X.K, c⟩) (m := ma) h).weak fun v H1 ⟨W, ρ, A, σd, x, hR, hE, rx, hP⟩ => by
    cases rx with
    | bl k =>
      refine ⟨k, rfl, ?_⟩
      cases k with
      | true => exact Post.val (d := D.bl true) hR (.bl true) hP
      | false => exact ⟨W, ρ, A, σd, hR, hE, hP⟩
    | _ => exact hP.elim
theorem se_not (ha : PE X a (tE ⟨X.K, c⟩ EX ma)) : PE X (.UnaryOp .Not a pos) (tE ⟨X.K, c⟩ EX (Vi.m1 dNot ma)) :=
  PE.imp (pe_not ha) fun σ H Q h => (tM.bind (rel := VR ⟨X.K, c⟩) (m := ma) h).weak fun v H1 ⟨W, ρ, A, σd, x, hR, hE, rx, hP⟩ => by
    cases rx with
    | bl k => exact ⟨k, rfl, Post.val hR (.bl _) hP⟩
    | _ => exact hP.elim
end
/-! statements -/
inductive Fl where
  | nx (σ : Env)
  | rt (d : D)
  | bk (σ : Env)
  | ct (σ : Env)
  | xc (c : String) (fs : List (Str × D)) (σ : Env)
abbrev SM := Env → List O → R Fl
def PostF (g : G) (EX : WX) (D' : Ends) (fl : Fl) (W : Hp) (ρ : List Addr) (H : Hp) : Prop := match fl with
  | .nx σd => ∀ σ, ER g W ρ σd σ → D'.nx σ H
  | .rt d => ∀ v, VR g W ρ d v → D'.rt v H
  | .bk σd => ∀ σ, ER g W ρ σd σ → D'.bk σ H
  | .ct σd => ∀ σ, ER g W ρ σd σ → D'.ct σ H
  | .xc c fs σd => ∀ σ dd, ER g W ρ σd σ → XF g W ρ H fs dd → EX (.ref (g.cls c)) dd σ H
def PostS (g : G) (EX : WX) (W : Hp) (ρ : List Addr) (H : Hp) (D' : Ends) (r : R Fl) : Prop := match r with
  | .ok fl A => ∀ W' ρ' H', Ext W ρ H W' ρ' H' → Rl g W' ρ' A H' → PostF g EX D' fl W' ρ' H'
  | _ => False
def tS (g : G) (EX : WX) (m : SM) : TS := fun D' σ H => ∃ W ρ A σd, Rl g W ρ A H ∧ ER g W ρ σd σ ∧ PostS g EX W ρ H D' (m σd A)
/-- an expression in a statement -/
def withE {α : Type} (m : M α) (k : Env → α → List O → R Fl) : SM := fun σ A => match m σ A with
  | .ok x A => k σ x A
  | .ex c fs A => .ok (.xc c fs σ) A
  | .no => .no
section
variable {g : G} {EX : WX} {W W' : Hp} {ρ ρ' : List Addr} {A : List O} {H H' : Hp} {D' : Ends} {σ : L2.St} {σd : Env}
theorem PostS.mono {r : R Fl} (e : Ext W ρ H W' ρ' H') (h : PostS g EX W ρ H D' r) : PostS g EX W' ρ' H' D' r := by
  cases r with
  | ok fl A => exact fun W2 ρ2 H2 e2 R2 => h W2 ρ2 H2 (e.trans e2) R2
  | ex c fs A => exact h
  | no => exact h
theorem PostS.val {fl : Fl} (hR : Rl g W ρ A H) (h : PostS g EX W ρ H D' (.ok fl A)) : PostF g EX D' fl W ρ H := h W ρ H (Ext.refl W ρ H) hR
theorem PostS.withE {α β : Type} {rel : Hp → List Addr → α → β → Prop} {m : M α} {k : Env → α → List O → R Fl} (hE : ER g W ρ σd σ) (h : PostS g EX W ρ H D' (Vi.withE m k σd A)) :
    Post g rel EX W ρ H σ (m σd A) (fun v H' => ∃ W' ρ' A' d, Ext W ρ H W' ρ' H' ∧ Rl g W' ρ' A' H' ∧ rel W' ρ' d v ∧ m σd A = .ok d A' ∧ PostS g EX W' ρ' H' D' (k σd d A')) := by
  unfold Vi.withE at h
  cases e : m σd A with
  | ok d A' =>
    rw [e] at h
    exact fun W2 ρ2 H2 v e2 R2 r2 => ⟨W2, ρ2, A', d, e2, R2, r2, rfl, PostS.mono e2 h⟩
  | ex c fs A' =>
    rw [e] at h
    exact fun W2 ρ2 H2 dd e2 R2 x2 => h W2 ρ2 H2 e2 R2 σ dd (hE.mono e2.ex) x2
  | no =>
    rw [e] at h
    exact h
theorem tS.withE {α β : Type} {rel : Hp → List Addr → α → β → Prop} {m : M α} {k : Env → α → List O → R Fl} (h : tS g EX (Vi.withE m k) D' σ H) :
    tM g rel EX m σ H (fun v H' => ∃ W ρ A σd d, Rl g W ρ A H' ∧ ER g W ρ σd σ ∧ rel W ρ d v ∧ PostS g EX W ρ H' D' (k σd d A)) := by
  obtain ⟨W, ρ, A, σd, hR, hE, hP⟩ := h
  exact ⟨W, ρ, A, σd, hR, hE, (PostS.withE (rel := rel) hE hP).weak fun v H' ⟨W', ρ', A', d, e', R', r', _, P'⟩ => ⟨W', ρ', A', σd, d, R', hE.mono e'.ex, r', P'⟩⟩
end
def sExpr (m : M D) : SM := withE m fun σ _ A => .ok (.nx σ) A
def sRet (m : M D) : SM := withE m fun _ d A => .ok (.rt d) A
def sRetN : SM := fun _ A => .ok (.rt .non) A
def sPass : SM := fun σ A => .ok (.nx σ) A
def sBreak : SM := fun σ A => .ok (.bk σ) A
def sSet (i : Nat) (m : M D) : SM := withE m fun σ d A => .ok (.nx (σ.set i (some d))) A
def sIf (mt : M Bool) (a b : SM) : SM := withE mt fun σ k A => if k then a σ A else b σ A
def sSeq (a b : SM) : SM := fun σ A => match a σ A with
  | .ok (.nx σ) A => b σ A
  | r => r
def sAug (i : Nat) (f : D → D → List O → R D) (m : M D) : SM := fun σ A => match σ[i]? with
  | some (some x) => withE (fun σ A => (m σ A).bind fun y A => f x y A) (fun σ d A => .ok (.nx (σ.set i (some d))) A) σ A
  | _ => .no
/-- a list of ours, at slot i, is handed back as a value -/
def sRetF (i : Nat) : SM := fun σ A => match σ[i]? with
  | some (some (.ref n)) => match A[n]? with
    | some (.lst ds) => .ok (.rt (.lst ds)) (A.set n .dead)
    | _ => .no
  | _ => .no
section
variable {X : Cx} {c : String → Addr} {EX : WX} {e : Expr} {st : Stmt} {rest : List Stmt} {ma : M D} {pos : Pos} {s1 s2 : SM}
theorem ss_nil : PSs X [] (tS ⟨X.K, c⟩ EX sPass) := PSs.imp pss_nil fun D' σ H ⟨W, ρ, A, σd, hR, hE, hP⟩ => PostS.val hR hP σ hE
theorem ss_one (h : PS X st (tS ⟨X.K, c⟩ EX s1)) : PSs X [st] (tS ⟨X.K, c⟩ EX s1) := pss_one h
theorem ss_cons (h1 : PS X st (tS ⟨X.K, c⟩ EX s1)) (h2 : PSs X rest (tS ⟨X.K, c⟩ EX s2)) : PSs X (st :: rest) (tS ⟨X.K, c⟩ EX (sSeq s1 s2)) :=
  PSs.imp (pss_cons h1 h2) fun D' σ H ⟨W, ρ, A, σd, hR, hE, hP⟩ => by
    refine ⟨W, ρ, A, σd, hR, hE, ?_⟩
    unfold sSeq at hP
    cases e : s1 σd A with
    | ok fl A1 =>
      rw [e] at hP
      cases fl with
      | nx σ1 => exact fun W2 ρ2 H2 e2 R2 σ' r2 => ⟨W2, ρ2, A1, σ1, R2, r2, PostS.mono e2 hP⟩
      | rt d => exact hP
      | bk σ1 => exact hP
      | ct σ1 => exact hP
      | xc c' fs σ1 => exact hP
    | ex c' fs A1 => rw [e] at hP; exact hP
    | no => rw [e] at hP; exact hP
theorem ss_break : PS X (.Break pos) (tS ⟨X.K, c⟩ EX sBreak) := PS.imp ps_break fun D' σ H ⟨W, ρ, A, σd, hR, hE, hP⟩ => PostS.val hR hP σ hE
theorem ss_expr (h : PE X e (tE ⟨X.K, c⟩ EX ma)) (hs : swapsWith e none pos.line X.env = pure false := by rfl) : PS X (.Expr e pos) (tS ⟨X.K, c⟩ EX (sExpr ma)) :=
  PS.imp (ps_expr h hs) fun D' σ H q => (tS.withE (rel := VR ⟨X.K, c⟩) q).weak fun v H' ⟨W, ρ, A, σd, d, hR, hE, r, hP⟩ => PostS.val hR hP σ hE
theorem ss_ret (h : PE X e (tE ⟨X.K, c⟩ EX ma)) : PS X (.Return (some e) pos) (tS ⟨X.K, c⟩ EX (sRet ma)) :=
  PS.imp (ps_ret h) fun D' σ H q => (tS.withE (rel := VR ⟨X.K, c⟩) q).weak fun v H' ⟨W, ρ, A, σd, d, hR, hE, r, hP⟩ => PostS.val hR hP v r
theorem ss_retF {i : Nat} {x : Str} {pos' : Pos} (hN : X.N[i]? = some x := by rfl) (hv : Vis X.env.scope x := by first | exact Or.inl rfl | exact Or.inr (Or.inl rfl) | exact Or.inr (Or.inr rfl)) (hd : (x == ("__debug__" : Str)) = false := by decide)
    (hcd : (x == ("__classdict__" : Str)) = false := by decide) : PS X (.Return (some (.Name x pos')) pos) (tS ⟨X.K, c⟩ EX (sRetF i)) :=
  PS.imp (ps_ret (pe_var hN hv hd hcd)) fun D' σ H ⟨W, ρ, A, σd, hR, hE, hP⟩ => by
    unfold sRetF at hP
    split at hP
    · rename_i n e1
      split at hP
      · rename_i ds e2
        obtain ⟨v, h1, h2⟩ := hE.at_ i _ e1
        cases h2 with
        | ref h3 =>
          obtain ⟨W', e', R', r'⟩ := hR.freeze e2 h3
          exact ⟨_, h1, hP W' ρ H e' R' _ r'⟩
      · exact hP.elim
    · exact hP.elim
theorem ss_set {i : Nat} {x : Str} {pos' : Pos} (hN : X.N.Nodup) (hi : X.N[i]? = some x) (hx : Loc X.env.scope x) (h : PE X e (tE ⟨X.K, c⟩ EX ma)) (hs : swapsWith e (some (.Name x pos')) pos.line X.env = pure false := by rfl)
    (hf : X.fn x = true ∨ X.env.scope.names.lookup x = some .local := by first | exact .inl rfl | exact .inr rfl | assumption) : PS X (.Assign [.Name x pos'] e pos) (tS ⟨X.K, c⟩ EX (sSet i ma)) :=
  PS.imp (ps_set hN hi hx h hs hf) fun D' σ H q => (tS.withE (rel := VR ⟨X.K, c⟩) q).weak fun v H' ⟨W, ρ, A, σd, d, hR, hE, r, hP⟩ => PostS.val hR hP _ (hE.set i r)
theorem ss_if {t : Expr} {a b : List Stmt} {mt : M Bool} (ht : PT X t (tT ⟨X.K, c⟩ EX mt)) (ha : PSs X a (tS ⟨X.K, c⟩ EX s1)) (hb : PSs X b (tS ⟨X.K, c⟩ EX s2)) : PS X (.If t a b pos) (tS ⟨X.K, c⟩ EX (sIf mt s1 s2)) :=
  PS.imp (ps_if ht ha hb) fun D' σ H q => (tS.withE (rel := fun _ _ a b => a = b) q).weak fun v H' ⟨W, ρ, A, σd, d, hR, hE, r, hP⟩ => by
    subst r
    cases d with
    | true => exact ⟨W, ρ, A, σd, hR, hE, hP⟩
    | false => exact ⟨W, ρ, A, σd, hR, hE, hP⟩
end
end Vi
end
section
set_option Elab.async false
set_option linter.all false
set_option maxRecDepth 100000
set_option maxHeartbeats 2000000
namespace Vi
open PySem PySem.Spec L2
/-! targets -/
abbrev TgM := D → Env → List O → R Env
/-- the slots in vs alone may be stored -/
structure ERT (g : G) (vs : List Nat) (σ0 : L2.St) (W : Hp) (ρ : List Addr) (σd : Env) (σ : L2.St) : Prop where
  er : ER g W ρ σd σ
  len : σ.length = σ0.length
  out : ∀ j, j ∉ vs → σ[j]? = σ0[j]?
def noX : WX := fun _ _ _ _ => False
def tG (g : G) (vs : List Nat) (mt : TgM) : TG := fun v σ H Q =>
  ∃ W ρ A σd d, Rl g W ρ A H ∧ ER g W ρ σd σ ∧ VR g W ρ d v ∧ Post g (ERT g vs σ) noX W ρ H σ (mt d σd A) Q
def tGs (g : G) (vs : List Nat) (mt : List D → Env → List O → R Env) : TGs := fun us σ H Q =>
  ∃ W ρ A σd ds, Rl g W ρ A H ∧ ER g W ρ σd σ ∧ VRs g W ρ ds us ∧ Post g (ERT g vs σ) noX W ρ H σ (mt ds σd A) Q
def tgN (i : Nat) : TgM := fun d σ A => .ok (σ.set i (some d)) A
def tgsNil : List D → Env → List O → R Env := fun ds σ A => match ds with
  | [] => .ok σ A
  | _ => .no
def tgsCons (t : TgM) (r : List D → Env → List O → R Env) : List D → Env → List O → R Env := fun ds σ A => match ds with
  | d :: ds => (t d σ A).bind fun σ A => r ds σ A
  | _ => .no
/-- a tuple of n targets -/
def tgT (n : Nat) (r : List D → Env → List O → R Env) : TgM := fun d σ A => match d with
  | .tup ds => if ds.length = n then r ds σ A else .no
  | .lst ds => if ds.length = n then r ds σ A else .no
  | _ => .no
/-- o[i] = .. -/
def setIx (o i d : D) (A : List O) : Option (List O) := match o, i with
  | .ref n, .int k => match A[n]? with
    | some (.lst ds) => match ixN ds.length k with
      | some j => some (A.set n (.lst (ds.set j d)))
      | none => none
    | _ => none
  | _, _ => none
def tgSub (mo mi : M D) : TgM := fun d σ A => (mo σ A).bind fun o A => (mi σ A).bind fun i A => match setIx o i d A with
  | some A => .ok σ A
  | none => .no
theorem PG.imp {X : Cx} {e : Expr} {t u : TG} (h : PG X e t) (i : ∀ v σ H Q, u v σ H Q → t v σ H Q) : PG X e u := ⟨fun pins s σ H v uv Q I r q => h.run pins s σ H v uv Q I r (i v σ H Q q)⟩
theorem PGs.imp {X : Cx} {e : List Expr} {t u : TGs} (h : PGs X e t) (i : ∀ v σ H Q, u v σ H Q → t v σ H Q) : PGs X e u := ⟨fun pins s σ H v uv Q I r q => h.run pins s σ H v uv Q I r (i v σ H Q q)⟩
theorem PI.imp {X : Cx} {tg e : Expr} {t u : TI} (h : PI X tg e t) (i : ∀ σ H R, u σ H R → t σ H R) : PI X tg e u := ⟨fun pins s σ H R I q => h.run pins s σ H R I (i σ H R q)⟩
theorem PI.or {X : Cx} {tg e : Expr} {t u : TI} (h : PI X tg e t) (h' : PI X tg e u) : PI X tg e (fun σ H R => t σ H R ∨ u σ H R) :=
  ⟨fun pins s σ H R I q => q.elim (h.run pins s σ H R I) (h'.run pins s σ H R I)⟩
theorem Post.noX {g : G} {α β : Type} {rel : Hp → List Addr → α → β → Prop} {EX : WX} {W : Hp} {ρ : List Addr} {H : Hp} {σ : L2.St} {r : R α} {Q : β → Hp → Prop} (h : Post g rel noX W ρ H σ r Q) : Post g rel EX W ρ H σ r Q := by
  cases r with
  | ok d A => exact h
  | ex c fs A => exact fun W2 ρ2 H2 dd e2 R2 x2 => (h W2 ρ2 H2 dd e2 R2 x2).elim
  | no => exact h
section
variable {X : Cx} {c : String → Addr} {EX : WX} {vs : List Nat} {pos : Pos}
theorem sg_name {i : Nat} {x : Str} (hN : X.N.Nodup) (hi : X.N[i]? = some x) (hx : Loc X.env.scope x) (hv : i ∈ vs := by decide)
    (hf : X.fn x = true ∨ X.env.scope.names.lookup x = some .local := by first | exact .inl rfl | exact .inr rfl | assumption) : PG X (.Name x pos) (tG ⟨X.K, c⟩ vs (tgN i)) :=
  PG.imp (pg_name hN hi hx hf) fun v σ H Q ⟨W, ρ, A, σd, d, hR, hE, hr, hP⟩ => by
    refine hP W ρ H _ (Ext.refl W ρ H) hR ⟨hE.set i hr, by simp, fun j hj => ?_⟩
    rw [List.getElem?_set_ne]
    rintro rfl
    exact hj hv
theorem sgs_nil : PGs X [] (tGs ⟨X.K, c⟩ vs tgsNil) := PGs.imp pgs_nil fun us σ H Q ⟨W, ρ, A, σd, ds, hR, hE, hr, hP⟩ => by
  cases hr with
  | nil => exact ⟨rfl, hP W ρ H σ (Ext.refl W ρ H) hR ⟨hE, rfl, fun _ _ => rfl⟩⟩
  | cons _ _ => exact hP.elim
theorem sgs_cons {e : Expr} {es : List Expr} {t : TgM} {r : List D → Env → List O → R Env} (h1 : PG X e (tG ⟨X.K, c⟩ vs t)) (h2 : PGs X es (tGs ⟨X.K, c⟩ vs r))
    (hs : (assignEach (e :: es) X.env).map (·.2) = assign e X.env :: (assignEach es X.env).map (·.2) := by rfl) : PGs X (e :: es) (tGs ⟨X.K, c⟩ vs (tgsCons t r)) :=
  PGs.imp (pgs_cons h1 h2 hs) fun us σ H Q ⟨W, ρ, A, σd, ds, hR, hE, hr, hP⟩ => by
    cases hr with
    | nil => exact hP.elim
    | @cons d ds v us r1 r2 =>
      refine ⟨v, us, rfl, W, ρ, A, σd, d, hR, hE, r1, ?_⟩
      have hP' : Post ⟨X.K, c⟩ (ERT ⟨X.K, c⟩ vs σ) noX W ρ H σ ((t d σd A).bind fun σ A => r ds σ A) Q := hP
      cases em : t d σd A with
      | ok σ1 A1 =>
        rw [em] at hP'
        refine fun W2 ρ2 H2 σ2 e2 R2 er2 => ?_
        have q : Post ⟨X.K, c⟩ (ERT ⟨X.K, c⟩ vs σ) noX W2 ρ2 H2 σ (r ds σ1 A1) Q := Post.mono e2 hP'
        refine ⟨W2, ρ2, A1, σ1, ds, R2, er2.er, r2.mono e2.ex, ?_⟩
        cases em2 : r ds σ1 A1 with
        | ok σ3 A3 =>
          rw [em2] at q
          exact fun W4 ρ4 H4 σ4 e4 R4 er4 => q W4 ρ4 H4 σ4 e4 R4 ⟨er4.er, er4.len.trans er2.len, fun j hj => (er4.out j hj).trans (er2.out j hj)⟩
        | ex c' fs A3 => rw [em2] at q; exact q
        | no => rw [em2] at q; exact q
      | ex c' fs A1 => rw [em] at hP'; exact hP'
      | no => rw [em] at hP'; exact hP'
theorem pg_or {X : Cx} {e : Expr} {t1 t2 : TG} (h1 : PG X e t1) (h2 : PG X e t2) : PG X e (fun v σ H Q => t1 v σ H Q ∨ t2 v σ H Q) :=
  ⟨fun pins s σ H v u Q I r h => h.elim (h1.run pins s σ H v u Q I r) (h2.run pins s σ H v u Q I r)⟩
theorem sg_tup {es : List Expr} {k n : Nat} {r : List D → Env → List O → R Env} (hc : X.calm = true) (h : PGs X es (tGs ⟨X.K, c⟩ vs r))
    (hn : (assignEach es X.env).length = n := by rfl) (hst : (assignEach es X.env).findIdx? (·.1) = none := by rfl) : PG X (.Tuple es k pos) (tG ⟨X.K, c⟩ vs (tgT n r)) :=
  PG.imp (pg_or (pg_tup hc h hn hst) (pg_unl hc h hn hst)) fun v σ H Q ⟨W, ρ, A, σd, d, hR, hE, hr, hP⟩ => by
    unfold tgT at hP
    cases hr with
    | @tup ds a us h1 r1 =>
      simp only at hP
      split at hP
      · rename_i hl
        exact .inl ⟨a, us, rfl, sqT_up hR h1, by rw [← r1.length]; exact hl, W, ρ, A, σd, ds, hR, hE, r1, hP⟩
      · exact hP.elim
    | @lst ds a us h1 r1 =>
      simp only at hP
      split at hP
      · rename_i hl
        exact .inr ⟨a, us, rfl, SqL.of (hR.ext _ _ h1), by rw [← r1.length]; exact hl, W, ρ, A, σd, ds, hR, hE, r1, hP⟩
      · exact hP.elim
    | _ => exact hP.elim
theorem setIx_ok {g : G} {W : Hp} {ρ : List Addr} {A A' : List O} {H : Hp} {o i d : D} {ov iv v : V} {Q : Hp → Prop} (hR : Rl g W ρ A H) (ro : VR g W ρ o ov) (ri : VR g W ρ i iv) (rd : VR g W ρ d v) (h : setIx o i d A = some A')
    (q : ∀ H', Ext W ρ H W ρ H' → Rl g W ρ A' H' → Q H') : rSetL ov iv v H Q := by
  unfold setIx at h
  cases ro with
  | @ref n a h1 =>
    cases ri with
    | int k =>
      simp only at h
      split at h
      · rename_i ds e
        split at h
        · rename_i j ej
          cases h
          obtain ⟨us, e2, r2⟩ := hR.obj n _ a e h1
          refine ⟨a, us, k, j, rfl, rfl, e2, by rw [← r2.length]; exact ej, ?_⟩
          exact q _ (Rl.putE h1) (hR.put e (fun z => nomatch z) h1 ⟨_, rfl, r2.set rd j⟩)
        · cases h
      · cases h
    | _ => cases h
  | _ => cases h
theorem sg_sub {o i : Expr} {mo mi : M D} (ho : PE X o (tE ⟨X.K, c⟩ noX mo)) (hi : PE X i (tE ⟨X.K, c⟩ noX mi))
    (ha : ∀ v, assign (.Subscript o i pos) X.env v = (do
      let ov ← holding [v] (eval o X.env)
      let iv ← holding [v, ov] (eval i X.env)
      standAt pos
      holding [v, ov, iv] (setItem ov iv v)
      release [v, ov, iv] []) := by intro _; rfl) : PG X (.Subscript o i pos) (tG ⟨X.K, c⟩ vs (tgSub mo mi)) :=
  PG.imp (pg_sub ho hi set_list ha) fun v σ H Q ⟨W, ρ, A, σd, d, hR, hE, hr, hP⟩ => by
    refine ⟨W, ρ, A, σd, hR, hE, (Post.noX (Post.bind (rel := VR ⟨X.K, c⟩) hP)).weak fun ov H1 ⟨W1, ρ1, A1, od, e1, R1, r1, _, P1⟩ => ?_⟩
    refine ⟨W1, ρ1, A1, σd, R1, hE.mono e1.ex, (Post.noX (Post.bind (rel := VR ⟨X.K, c⟩) P1)).weak fun iv H2 ⟨W2, ρ2, A2, id', e2, R2, r2, _, P2⟩ => ?_⟩
    cases em : setIx od id' d A2 with
    | some A3 =>
      rw [em] at P2
      refine setIx_ok R2 (r1.mono e2.ex) r2 (hr.mono (e1.trans e2).ex) em fun H3 e3 R3 => ?_
      exact P2 W2 ρ2 H3 σ e3 R3 ⟨hE.mono ((e1.trans e2).trans e3).ex, rfl, fun _ _ => rfl⟩
    | none => rw [em] at P2; exact P2.elim
/-- target = value -/
def sAsg (m : M D) (mt : TgM) : SM := withE m fun σ d A => match mt d σ A with
  | .ok σ A => .ok (.nx σ) A
  | _ => .no
theorem ss_asg {tg e : Expr} {ma : M D} {mt : TgM} (he : PE X e (tE ⟨X.K, c⟩ EX ma)) (hg : PG X tg (tG ⟨X.K, c⟩ vs mt)) (hs : swapsWithSole [tg] e pos.line X.env = pure false := by rfl) (hw : swappedStores [tg] e X.env = pure none := by rfl)
    (h1 : (assignEach [tg] X.env).map (·.2) = [assign tg X.env] := by rfl) : PS X (.Assign [tg] e pos) (tS ⟨X.K, c⟩ EX (sAsg ma mt)) :=
  PS.imp (ps_asg he hg hs hw h1) fun D' σ H q => (tS.withE (rel := VR ⟨X.K, c⟩) q).weak fun v H' ⟨W, ρ, A, σd, d, hR, hE, r, hP⟩ => by
    refine ⟨W, ρ, A, σd, d, hR, hE, r, ?_⟩
    cases em : mt d σd A with
    | ok σ1 A1 =>
      rw [em] at hP
      exact fun W2 ρ2 H2 σ2 e2 R2 er => hP W2 ρ2 H2 e2 R2 σ2 er.er
    | ex c' fs A1 => rw [em] at hP; exact hP.elim
    | no => rw [em] at hP; exact hP.elim
end
/-! what is walked -/
structure Src where
  ok : List O → Prop
  items : List D
abbrev Src.fix (ds : List D) : Src := ⟨fun _ => True, ds⟩
abbrev Src.live (x : D) (ds : List D) : Src := ⟨fun A => lstOf x A = some ds, ds⟩
def SrcR (g : G) (W0 : Hp) (ρ0 : List Addr) (s : Src) (J : It) : Prop :=
  ∀ W ρ A H i, Ex2 W0 ρ0 W ρ → Rl g W ρ A H → s.ok A → (s.items.length ≤ i → J.stop i H) ∧
    ∀ d, s.items[i]? = some d → J.go i H ∧ ∀ x H', J.yld i H x H' → ∃ W', Ext W ρ H W' ρ H' ∧ Rl g W' ρ A H' ∧ VR g W' ρ d x
theorem SrcR.mono {g : G} {W W' : Hp} {ρ ρ' : List Addr} {s : Src} {J : It} (e : Ex2 W ρ W' ρ') (h : SrcR g W ρ s J) : SrcR g W' ρ' s J := fun W2 ρ2 A H i e2 => h W2 ρ2 A H i (e.trans e2)
abbrev tI (g : G) (EX : WX) (m : M Src) : TI := tM g (SrcR g) EX m
def kD : Key → D
  | .inl i => .int i
  | .inr s => .str s
theorem kD_ok {g : G} {W : Hp} {ρ : List Addr} : ∀ {k : Key}, VR g W ρ (kD k) (kV k)
  | .inl i => .int i
  | .inr s => .str s
/-- a list, a tuple -/
def srcOf (x : D) (A : List O) : R Src := match x with
  | .tup ds => .ok (.fix ds) A
  | .lst ds => .ok (.fix ds) A
  | .scr ds => .ok (.fix ds) A
  | .ref n => match A[n]? with
    | some (.lst ds) => .ok (.live (.ref n) ds) A
    | _ => .no
  | .str s => .ok (.fix (s.cps.toList.map fun z => .str ⟨#[z]⟩)) A
  | .dz ks _ => .ok (.fix (ks.map kD)) A
  | _ => .no
def mSrc (ma : M D) : M Src := fun σ A => (ma σ A).bind srcOf
section
variable {g : G} {W : Hp} {ρ : List Addr}
theorem src_list {ds : List D} {a : Addr} {s : Src} (hs : s.items = ds) (r : ∀ W' ρ' A H, Ex2 W ρ W' ρ' → Rl g W' ρ' A H → s.ok A → ∃ vs, SqL g.K H a vs ∧ VRs g W' ρ' ds vs) : SrcR g W ρ s (Itl g.K a) := by
  intro W' ρ' A H i e hR ok
  obtain ⟨vs, hq, rv⟩ := r W' ρ' A H e hR ok
  rw [hs]
  refine ⟨fun hi => ⟨vs, hq, by rw [← rv.length]; exact hi⟩, fun d hd => ?_⟩
  obtain ⟨v, h1, h2⟩ := rv.get hd
  refine ⟨⟨vs, v, hq, h1⟩, fun x H' y => ?_⟩
  obtain ⟨rfl, f⟩ := y
  have ex : x = v := Option.some.inj ((f vs hq).symm.trans h1)
  subst ex
  exact ⟨W', Ext.refl W' ρ' H', hR, h2⟩
theorem src_tup {ds : List D} {a : Addr} {vs : List V} (h : SqT g.K W a vs) (rv : VRs g W ρ ds vs) : SrcR g W ρ (.fix ds) (Itt g.K a) := by
  intro W' ρ' A H i e hR ok
  have hq : SqT g.K H a vs := sqT_up hR (sqT_mono e.same h)
  refine ⟨fun hi => ⟨vs, hq, by rw [← rv.length]; exact hi⟩, fun d hd => ?_⟩
  obtain ⟨v, h1, h2⟩ := rv.get hd
  refine ⟨⟨vs, v, hq, h1⟩, fun x H' y => ?_⟩
  obtain ⟨rfl, f⟩ := y
  have ex : x = v := Option.some.inj ((f vs hq).symm.trans h1)
  subst ex
  exact ⟨W', Ext.refl W' ρ' H', hR, h2.mono e⟩
theorem src_str {z : Str} : SrcR g W ρ (.fix (z.cps.toList.map fun c => .str ⟨#[c]⟩)) (Its z) := by
  intro W' ρ' A H i e hR ok
  refine ⟨fun hi => ?_, fun d hd => ?_⟩
  · have : z.cps.toList.length ≤ i := by simpa [Src.items] using hi
    exact (by simpa using this : z.cps.size ≤ i)
  · have hd' : (z.cps.toList.map fun c => (D.str ⟨#[c]⟩))[i]? = some d := hd
    rw [List.getElem?_map] at hd'
    obtain ⟨c', h1, rfl⟩ := Option.map_eq_some_iff.mp hd'
    rw [Array.getElem?_toList] at h1
    refine ⟨(Array.getElem?_eq_some_iff.mp h1).1, fun x H' y => ?_⟩
    obtain ⟨rfl, c2, h2, rfl⟩ := y
    rw [h1] at h2; cases h2
    exact ⟨W', Ext.refl W' ρ' H', hR, .str _⟩
theorem src_keys {ks : List Key} {a : Addr} {vs : List V} {od : Obj} (h : W a = some (.frz od (.dK (ks.zip vs)))) (hl : ks.length = vs.length) : SrcR g W ρ (.fix (ks.map kD)) (Itk a od (ks.zip vs)) := by
  intro W' ρ' A H i e hR ok
  have hH : H a = some (.frz od (.dK (ks.zip vs))) := hR.ext _ _ (e.same _ _ h)
  have hz : (ks.zip vs).length = ks.length := by rw [List.length_zip]; omega
  refine ⟨fun hi => ⟨hH, ?_⟩, fun d hd => ?_⟩
  · have : ks.length ≤ i := by simpa [Src.items] using hi
    rw [hz]; exact this
  · have hd' : (ks.map kD)[i]? = some d := hd
    rw [List.getElem?_map] at hd'
    obtain ⟨k, h1, rfl⟩ := Option.map_eq_some_iff.mp hd'
    refine ⟨⟨hH, by rw [hz]; exact (List.getElem?_eq_some_iff.mp h1).1⟩, fun x H' y => ?_⟩
    obtain ⟨rfl, k2, v2, h2, rfl⟩ := y
    have h3 : ks[i]? = some k2 := (List.getElem?_zip_eq_some.mp h2).1
    rw [h1] at h3
    cases h3
    exact ⟨W', Ext.refl W' ρ' H', hR, kD_ok⟩
theorem src_range {lo : Int} {n : Nat} : SrcR g W ρ (.fix ((List.range n).map fun i => .int (lo + (i : Nat)))) (Itr lo n) := by
  intro W' ρ' A H i e hR ok
  refine ⟨fun hi => ?_, fun d hd => ?_⟩
  · have : n ≤ i := by simpa [Src.items] using hi
    exact this
  · have hd' : ((List.range n).map fun i => (D.int (lo + (i : Nat))))[i]? = some d := hd
    rw [List.getElem?_map] at hd'
    obtain ⟨k, h1, rfl⟩ := Option.map_eq_some_iff.mp hd'
    have hk : i < n ∧ k = i := by
      rw [List.getElem?_eq_some_iff] at h1
      obtain ⟨h2, h3⟩ := h1
      rw [List.getElem_range] at h3
      exact ⟨by simpa using h2, h3.symm⟩
    obtain ⟨hi, rfl⟩ := hk
    refine ⟨hi, fun x H' y => ?_⟩
    obtain ⟨rfl, rfl⟩ := y
    exact ⟨W', Ext.refl W' ρ' H', hR, .int _⟩
end
section
variable {X : Cx} {c : String → Addr} {EX : WX} {tg e : Expr} {ma : M D}
theorem si_any (he : PE X e (tE ⟨X.K, c⟩ EX ma)) : PI X tg e (tI ⟨X.K, c⟩ EX (mSrc ma)) :=
  PI.imp (Vi.PI.or (Vi.PI.or (Vi.PI.or (pi_list (tg := tg) he) (pi_tup he)) (pi_str he)) (pi_keys he)) fun σ H Q ⟨W, ρ, A, σd, hR, hE, hP⟩ => by
    have h2 := Post.bind (rel := VR ⟨X.K, c⟩) hP
    cases em : ma σd A with
    | ok x A1 =>
      rw [em] at h2
      have go : ∀ {Z : V → Hp → Prop}, (∀ v H' W' ρ', Ext W ρ H W' ρ' H' → Rl ⟨X.K, c⟩ W' ρ' A1 H' → VR ⟨X.K, c⟩ W' ρ' x v → Post ⟨X.K, c⟩ (SrcR ⟨X.K, c⟩) EX W' ρ' H' σ (srcOf x A1) Q → Z v H') → tE ⟨X.K, c⟩ EX ma σ H Z := fun {Z} hz => by
        refine ⟨W, ρ, A, σd, hR, hE, ?_⟩
        rw [em]
        intro W2 ρ2 H2 v e2 R2 r2
        obtain ⟨W3, ρ3, A3, d3, e3, R3, r3, eq, P3⟩ := h2 W2 ρ2 H2 v e2 R2 r2
        cases eq
        exact hz v H2 W3 ρ3 e3 R3 r3 P3
      have bad : (∀ A, srcOf x A = .no) → False := fun hx => by
        unfold mSrc at hP
        rw [em] at hP
        simp only [R.bind_ok, hx] at hP
        exact hP
      cases x with
      | tup ds =>
        refine .inl (.inl (.inr (go fun v H' W' ρ' e' R' r' P' => ?_)))
        cases r' with
        | tup h1 r1 => exact ⟨_, rfl, ⟨_, sqT_up R' h1⟩, Post.val R' (src_tup (g := ⟨X.K, c⟩) h1 r1) P'⟩
      | lst ds =>
        refine .inl (.inl (.inl (go fun v H' W' ρ' e' R' r' P' => ?_)))
        cases r' with
        | @lst ds a vs h1 r1 => exact ⟨_, rfl, ⟨_, SqL.of (R'.ext _ _ h1)⟩, Post.val R' (src_list (g := ⟨X.K, c⟩) (s := .fix ds) rfl fun W2 ρ2 A2 H2 e2 R2 _ => ⟨_, SqL.of (R2.ext _ _ (e2.same _ _ h1)), r1.mono e2⟩) P'⟩
      | scr ds =>
        refine .inl (.inl (.inl (go fun v H' W' ρ' e' R' r' P' => ?_)))
        cases r' with
        | @scr ds a vs h1 r1 => exact ⟨_, rfl, ⟨_, sqL_up R' h1⟩, Post.val R' (src_list (g := ⟨X.K, c⟩) (s := .fix ds) rfl fun W2 ρ2 A2 H2 e2 R2 _ => ⟨_, sqL_up R2 (sqL_mono e2.same h1), r1.mono e2⟩) P'⟩
      | ref n =>
        refine .inl (.inl (.inl (go fun v H' W' ρ' e' R' r' P' => ?_)))
        cases r' with
        | @ref n a h1 =>
          unfold srcOf at P'
          simp only at P'
          split at P'
          · rename_i ds e2
            obtain ⟨vs, e3, r3⟩ := R'.obj n _ a e2 h1
            refine ⟨_, rfl, ⟨_, SqL.of e3⟩, Post.val R' (src_list (g := ⟨X.K, c⟩) (s := .live (.ref n) ds) rfl fun W2 ρ2 A2 H2 e2 R2 ok => ?_) P'⟩
            obtain ⟨a', vs', ea, h4, r4⟩ := lstOf_ok R2 (.ref (e2.pre _ _ h1)) ok
            cases ea
            exact ⟨vs', SqL.of h4, r4⟩
          · exact P'.elim
      | dz ks ds =>
        refine .inr (go fun v H' W' ρ' e' R' r' P' => ?_)
        cases r' with
        | @dz _ _ a vs od h1 l n r1 => exact ⟨a, od, rfl, .inl ⟨_, R'.ext _ _ h1, Post.val R' (src_keys (g := ⟨X.K, c⟩) h1 (l.trans r1.length)) P'⟩⟩
      | str z =>
        refine .inl (.inr (go fun v H' W' ρ' e' R' r' P' => ?_))
        cases r' with
        | str => exact ⟨z, rfl, Post.val R' src_str P'⟩
      | _ => exact (bad fun _ => rfl).elim
    | ex c' fs A1 =>
      refine .inl (.inl (.inl ⟨W, ρ, A, σd, hR, hE, ?_⟩))
      rw [em] at h2 ⊢
      exact h2
    | no => rw [em] at h2; exact h2.elim
end
end Vi
end
section
set_option Elab.async false
set_option linter.all false
set_option maxRecDepth 100000
set_option maxHeartbeats 2000000
namespace Vi
open PySem PySem.Spec L2
open Classical
/-! loops -/
noncomputable def forD (ok : List O → Prop) (tg : TgM) (body : SM) : List D → SM
  | [], σ, A => if ok A then .ok (.nx σ) A else .no
  | d :: ds, σ, A => if ok A then (match tg d σ A with
    | .ok σ1 A1 => (match body σ1 A1 with
      | .ok (.nx σ2) A2 => forD ok tg body ds σ2 A2
      | .ok (.ct σ2) A2 => forD ok tg body ds σ2 A2
      | .ok (.bk σ2) A2 => .ok (.nx σ2) A2
      | r => r)
    | _ => .no) else .no
noncomputable def sFor (mi : M Src) (tg : TgM) (body : SM) : SM := withE mi fun σ s A => forD s.ok tg body s.items σ A
section
variable {X : Cx} {c : String → Addr} {EX : WX} {tg iter t : Expr} {body : List Stmt} {mi : M Src} {mt : TgM} {sb : SM} {vs : List Nat} {pos : Pos}
theorem ss_for (hp : PySem.PassesOwn (model X.prog X.w) X.A X.env X.xe) (hc : X.calm = true) (hi : PI X tg iter (tI ⟨X.K, c⟩ EX mi)) (hg : PG X tg (tG ⟨X.K, c⟩ vs mt)) (hb : PSs X body (tS ⟨X.K, c⟩ EX sb))
    (hs : ∀ x, foldedSetIterable iter X.env x = pure x := by intro _; rfl) : PS X (.For tg iter body [] pos) (tS ⟨X.K, c⟩ EX (sFor mi mt sb)) :=
  PS.imp (ps_for hp hc hi hg hb hs) fun D' σ H q => (tS.withE (rel := SrcR ⟨X.K, c⟩) q).weak fun J H1 ⟨W, ρ, A, σd, src, hR, hE, hJ, hP⟩ => by
    refine ⟨fun i m σ H => m = src.items.length - i ∧ i ≤ src.items.length ∧ ∃ W' ρ' A' σd', Ex2 W ρ W' ρ' ∧ Rl ⟨X.K, c⟩ W' ρ' A' H ∧ ER ⟨X.K, c⟩ W' ρ' σd' σ ∧ PostS ⟨X.K, c⟩ EX W' ρ' H D' (forD src.ok mt sb (src.items.drop i) σd' A'),
      ⟨src.items.length, by simp, Nat.zero_le _, W, ρ, A, σd, Ex2.refl W ρ, hR, hE, by rw [List.drop_zero]; exact hP⟩, ?_⟩
    rintro i m σ2 H2 ⟨rfl, hi, W', ρ', A', σd', e', R', E', P'⟩
    by_cases hlt : i < src.items.length
    · have hd : src.items.drop i = src.items[i] :: src.items.drop (i + 1) := List.drop_eq_getElem_cons hlt
      rw [hd] at P'
      unfold forD at P'
      split at P'
      · rename_i ok
        obtain ⟨_, hgo⟩ := hJ W' ρ' A' H2 i e' R' ok
        obtain ⟨go, yld⟩ := hgo src.items[i] (List.getElem?_eq_getElem hlt)
        refine .inr ⟨go, fun σ' H' => i + 1 ≤ src.items.length ∧ ∃ W' ρ' A' σd', Ex2 W ρ W' ρ' ∧ Rl ⟨X.K, c⟩ W' ρ' A' H' ∧ ER ⟨X.K, c⟩ W' ρ' σd' σ' ∧ PostS ⟨X.K, c⟩ EX W' ρ' H' D' (forD src.ok mt sb (src.items.drop (i + 1)) σd' A'),
          fun σ' H' n => ⟨src.items.length - (i + 1), by omega, rfl, n⟩, fun x H' y => ?_⟩
        obtain ⟨W3, e3, R3, r3⟩ := yld x H' y
        refine ⟨W3, ρ', A', σd', src.items[i], R3, E'.mono e3.ex, r3, ?_⟩
        cases em : mt src.items[i] σd' A' with
        | ok σ4 A4 =>
          rw [em] at P'
          refine fun W5 ρ5 H5 σ5 e5 R5 er5 => ⟨W5, ρ5, A4, σ4, R5, er5.er, ?_⟩
          have P5 := PostS.mono (e3.trans e5) P'
          simp only at P5
          cases em2 : sb σ4 A4 with
          | ok fl A6 =>
            rw [em2] at P5
            intro W6 ρ6 H6 e6 R6
            cases fl with
            | nx σ6 => exact fun σ7 E7 => ⟨hlt, W6, ρ6, A6, σ6, ((e'.trans e3.ex).trans e5.ex).trans e6.ex, R6, E7, PostS.mono e6 P5⟩
            | ct σ6 => exact fun σ7 E7 => ⟨hlt, W6, ρ6, A6, σ6, ((e'.trans e3.ex).trans e5.ex).trans e6.ex, R6, E7, PostS.mono e6 P5⟩
            | bk σ6 => exact fun σ7 E7 => P5 W6 ρ6 H6 e6 R6 σ7 E7
            | rt d => exact P5 W6 ρ6 H6 e6 R6
            | xc c' fs σ6 => exact P5 W6 ρ6 H6 e6 R6
          | ex c' fs A6 => rw [em2] at P5; exact P5
          | no => rw [em2] at P5; exact P5
        | ex c' fs A4 => rw [em] at P'; exact P'.elim
        | no => rw [em] at P'; exact P'.elim
      · exact P'.elim
    · have hi' : i = src.items.length := by omega
      subst hi'
      rw [List.drop_length] at P'
      unfold forD at P'
      split at P'
      · rename_i ok
        exact .inl ⟨(hJ W' ρ' A' H2 _ e' R' ok).1 (Nat.le_refl _), PostS.val R' P' σ2 E'⟩
      · exact P'.elim
end
/-! comprehensions -/
def wipeD (σ : Env) : List Nat → Env
  | [] => σ
  | v :: vs => (wipeD σ vs).set v none
noncomputable def lcD (ok : List O → Prop) (tg : TgM) (mt : M Bool) (me : M D) (σ : Env) : List D → List D → List O → R (List D)
  | [], acc, A => if ok A then .ok acc A else .no
  | d :: ds, acc, A => if ok A ∧ acc.length < sizeLine then (match tg d σ A with
    | .ok σ1 A1 => (match mt σ1 A1 with
      | .ok true A2 => (match me σ1 A2 with
        | .ok y A3 => lcD ok tg mt me σ ds (acc ++ [y]) A3
        | _ => .no)
      | .ok false A2 => lcD ok tg mt me σ ds acc A2
      | _ => .no)
    | _ => .no) else .no
noncomputable def mLc (fz : Bool) (mi : M Src) (tg : TgM) (mt : M Bool) (me : M D) (vs : List Nat) : M D := fun σ A => (mi σ A).bind fun s A => (lcD s.ok tg mt me (wipeD σ vs) s.items [] A).bind fun ds A => newL fz ds A
def mYes : M Bool := fun _ A => .ok true A
theorem ER.wipe {g : G} {W : Hp} {ρ : List Addr} {σd : Env} {σ : L2.St} (h : ER g W ρ σd σ) : ∀ vs, ER g W ρ (wipeD σd vs) (wipe σ vs)
  | [] => h
  | v :: vs => (ER.wipe h vs).unset v
theorem wipe_same {σ σ' : L2.St} : ∀ {vs : List Nat}, σ'.length = σ.length → (∀ j, j ∉ vs → σ'[j]? = σ[j]?) → wipe σ' vs = wipe σ vs := by
  intro vs hl ho
  apply List.ext_getElem?
  intro j
  have hin : ∀ {τ : L2.St} {us : List Nat}, j ∈ us → (wipe τ us)[j]? = if j < τ.length then some none else none := by
    intro τ us hm
    induction us with
    | nil => cases hm
    | cons u us ih =>
      unfold wipe
      by_cases e : u = j
      · subst e
        rw [List.getElem?_set_self']
        have hw := wipe_length τ us
        by_cases hj : u < τ.length
        · rw [List.getElem?_eq_getElem (by rw [hw]; exact hj), if_pos hj]; rfl
        · rw [List.getElem?_eq_none (by rw [hw]; omega), if_neg hj]; rfl
      · rw [List.getElem?_set_ne e]
        exact ih ((List.mem_cons.mp hm).resolve_left (fun z => e z.symm))
  by_cases hm : j ∈ vs
  · rw [hin hm, hin hm, hl]
  · rw [wipe_out hm, wipe_out hm]
    exact ho j hm
section
variable {g : G} {W : Hp} {ρ : List Addr} {A : List O} {H : Hp} {p : Addr}
/-- all but p -/
structure ExtD (p : Addr) (W : Hp) (ρ : List Addr) (H : Hp) (W' : Hp) (ρ' : List Addr) (H' : Hp) : Prop where
  ex : Ex2 W ρ W' ρ'
  fr : ∀ (q : Addr) (o : HO), q ≠ p → H q = some o → q ∉ ρ → H' q = some o ∧ q ∉ ρ' ∧ (W q = none → W' q = none)
theorem ExtD.then {W1 W2 : Hp} {ρ1 ρ2 : List Addr} {H1 H2 : Hp} (a : ExtD p W ρ H W1 ρ1 H1) (b : Ext W1 ρ1 H1 W2 ρ2 H2) : ExtD p W ρ H W2 ρ2 H2 :=
  ⟨a.ex.trans b.ex, fun q o z h n => by
    obtain ⟨h1, n1, w1⟩ := a.fr q o z h n
    obtain ⟨h2, n2, w2⟩ := b.fr q o h1 n1
    exact ⟨h2, n2, fun z => w2 (w1 z)⟩⟩
theorem ExtD.put {W1 : Hp} {ρ1 : List Addr} {H1 : Hp} {o : HO} (a : ExtD p W ρ H W1 ρ1 H1) : ExtD p W ρ H W1 ρ1 (upd H1 p o) :=
  ⟨a.ex, fun q o z h n => by
    obtain ⟨h1, n1, w1⟩ := a.fr q o z h n
    exact ⟨by rw [upd_ne z]; exact h1, n1, w1⟩⟩
theorem ExtD.done {W1 : Hp} {ρ1 : List Addr} {H1 : Hp} (hp : H p = none) (a : ExtD p W ρ H W1 ρ1 H1) : Ext W ρ H W1 ρ1 H1 :=
  ⟨a.ex, fun q o h n => a.fr q o (ne_of_none h hp) h n⟩
/-- what is tracked and not ours changes -/
theorem Rl.upd (h : Rl g W ρ A H) (hn : p ∉ ρ) (hw : W p = none) {o : HO} : Rl g W ρ A (L2.upd H p o) := by
  have ne : ∀ {n : Nat} {a : Addr}, ρ[n]? = some a → a ≠ p := fun {n a} e z => hn (by rw [← z]; exact List.mem_of_getElem? e)
  refine ⟨fun a o e => ?_, h.len, h.nd, fun n o a h1 h2 => ?_, h.nw, fun n a e => ?_⟩
  · rw [upd_ne (ne_of_none e hw)]; exact h.ext a o e
  · rw [upd_ne (ne h2)]; exact h.obj n o a h1 h2
  · rw [upd_ne (ne e)]; exact h.al n a e
/-- a list that was not ours becomes a value, or ours -/
theorem Rl.adoptW {vs : List V} {ds : List D} (h : Rl g W ρ A H) (hn : p ∉ ρ) (hw : W p = none) (hp : H p = some (.lst vs)) (r : VRs g W ρ ds vs) :
    Ex2 W ρ (L2.upd W p (.lst vs)) ρ ∧ Rl g (L2.upd W p (.lst vs)) ρ A H ∧ VR g (L2.upd W p (.lst vs)) ρ (.lst ds) (.ref p) ∧ ∀ q, q ≠ p → W q = none → L2.upd W p (.lst vs) q = none := by
  have e : Ex2 W ρ (L2.upd W p (.lst vs)) ρ := ⟨fun a o q => by rw [upd_ne (ne_of_none q hw)]; exact q, fun _ _ q => q⟩
  refine ⟨e, ⟨fun a o q => ?_, h.len, h.nd, fun n o a h1 h2 => (h.obj n o a h1 h2).mono e, fun n o a h1 h2 => ?_, h.al⟩, .lst upd_same (r.mono e), fun q z w => by rw [upd_ne z]; exact w⟩
  · by_cases z : a = p
    · subst z; rw [upd_same] at q; cases q; exact hp
    · rw [upd_ne z] at q; exact h.ext a o q
  · rcases h.nw n o a h1 h2 with z | z
    · exact .inl z
    · right; rw [upd_ne (fun z => hn (by rw [← z]; exact List.mem_of_getElem? h2))]; exact z
theorem Rl.adopt {vs : List V} {ds : List D} (h : Rl g W ρ A H) (hn : p ∉ ρ) (hw : W p = none) (hp : H p = some (.lst vs)) (r : VRs g W ρ ds vs) :
    Ex2 W ρ W (ρ ++ [p]) ∧ Rl g W (ρ ++ [p]) (A ++ [.lst ds]) H ∧ VR g W (ρ ++ [p]) (.ref A.length) (.ref p) := by
  have e : Ex2 W ρ W (ρ ++ [p]) := ⟨fun _ _ q => q, fun n a q => by
    rw [List.getElem?_append_left (List.getElem?_eq_some_iff.mp q).1]; exact q⟩
  have hl : (ρ ++ [p])[A.length]? = some p := by rw [← h.len]; simp
  have split_ : ∀ {n : Nat} {a : Addr}, (ρ ++ [p])[n]? = some a → ρ[n]? = some a ∨ (n = A.length ∧ a = p) := fun {n a} q => by
    rcases Nat.lt_or_ge n ρ.length with z | z
    · rw [List.getElem?_append_left z] at q; exact .inl q
    · rw [List.getElem?_append_right z] at q
      have q2 : n - ρ.length = 0 := by
        have := (List.getElem?_eq_some_iff.mp q).1
        simp at this
        omega
      rw [q2] at q
      simp at q
      exact .inr ⟨by rw [← h.len]; omega, q.symm⟩
  have at_ : ∀ {n : Nat} {o : O}, n < A.length → (A ++ [.lst ds])[n]? = some o → A[n]? = some o := fun {n o} z q => by rw [List.getElem?_append_left z] at q; exact q
  refine ⟨e, ⟨h.ext, by simp [h.len], ?_, fun n o a h1 h2 => ?_, fun n o a h1 h2 => ?_, fun n a q => ?_⟩, .ref hl⟩
  · rw [List.nodup_append]
    refine ⟨h.nd, by simp, fun a ha b hb => ?_⟩
    simp only [List.mem_singleton] at hb
    rintro rfl
    rw [hb] at ha
    exact hn ha
  · rcases split_ h2 with q | ⟨rfl, rfl⟩
    · exact (h.obj n o a (at_ (by rw [← h.len]; exact (List.getElem?_eq_some_iff.mp q).1) h1) q).mono e
    · simp at h1; subst h1
      exact ⟨vs, hp, r.mono e⟩
  · rcases split_ h2 with q | ⟨rfl, rfl⟩
    · exact h.nw n o a (at_ (by rw [← h.len]; exact (List.getElem?_eq_some_iff.mp q).1) h1) q
    · exact .inr hw
  · rcases split_ q with q | ⟨rfl, rfl⟩
    · exact h.al n a q
    · rw [hp]; simp
end
section
variable {X : Cx} {c : String → Addr} {EX : WX} {elt tg iter : Expr} {ifs : List Expr} {scope : Scope} {own : List (Str × Nat)} {mi : M Src} {mt : TgM} {m1 : M Bool} {me : M D} {pos : Pos}
theorem lc_imp {fz : Bool} {vs : List Nat} {σ : L2.St} {H : Hp} {Q : VK} (h : tE ⟨X.K, c⟩ EX (mLc fz mi mt m1 me vs) σ H Q) :
    tLc (tI ⟨X.K, c⟩ EX mi) (tG ⟨X.K, c⟩ vs mt) (tT ⟨X.K, c⟩ noX m1) (tE ⟨X.K, c⟩ noX me) vs σ H Q := by
  refine (tM.bind (rel := SrcR ⟨X.K, c⟩) (m := mi) h).weak fun J H1 ⟨W, ρ, A, σd, src, hR, hE, hJ, hP⟩ => ?_
  intro p hp
  have hn := hR.notin hp
  have hw := hR.fresh hp
  have R0 : Rl ⟨X.K, c⟩ W ρ A (upd H1 p (.lst [])) := hR.other hp
  have E0 : ExtD p W ρ H1 W ρ (upd H1 p (.lst [])) := ⟨Ex2.refl W ρ, fun q o z h n => ⟨by rw [upd_ne z]; exact h, n, fun w => w⟩⟩
  -- the word
  refine ⟨fun i m H => m = src.items.length - i ∧ i ≤ src.items.length ∧ ∃ W' ρ' A' acc vacc, ExtD p W ρ H1 W' ρ' H ∧ Rl ⟨X.K, c⟩ W' ρ' A' H ∧ p ∉ ρ' ∧ W' p = none ∧ H p = some (.lst vacc) ∧ VRs ⟨X.K, c⟩ W' ρ' acc vacc ∧
      Post ⟨X.K, c⟩ (VR ⟨X.K, c⟩) EX W ρ H1 σ ((lcD src.ok mt m1 me (wipeD σd vs) (src.items.drop i) acc A').bind fun ds A => newL fz ds A) Q,
    ⟨src.items.length, by simp, Nat.zero_le _, W, ρ, A, [], [], E0, R0, hn, hw, upd_same, .nil, by rw [List.drop_zero]; exact hP⟩, ?_⟩
  rintro i m H2 ⟨rfl, hi, W', ρ', A', acc, vacc, e', R', n', w', h', r', P'⟩
  by_cases hlt : i < src.items.length
  · have hd : src.items.drop i = src.items[i] :: src.items.drop (i + 1) := List.drop_eq_getElem_cons hlt
    rw [hd] at P'
    unfold lcD at P'
    split at P'
    · rename_i ok
      obtain ⟨ok, hz⟩ := ok
      obtain ⟨_, hgo⟩ := hJ W' ρ' A' H2 i e'.ex R' ok
      obtain ⟨go, yld⟩ := hgo src.items[i] (List.getElem?_eq_getElem hlt)
      refine .inr ⟨go, fun H => i + 1 ≤ src.items.length ∧ ∃ W' ρ' A' acc vacc, ExtD p W ρ H1 W' ρ' H ∧ Rl ⟨X.K, c⟩ W' ρ' A' H ∧ p ∉ ρ' ∧ W' p = none ∧ H p = some (.lst vacc) ∧ VRs ⟨X.K, c⟩ W' ρ' acc vacc ∧
        Post ⟨X.K, c⟩ (VR ⟨X.K, c⟩) EX W ρ H1 σ ((lcD src.ok mt m1 me (wipeD σd vs) (src.items.drop (i + 1)) acc A').bind fun ds A => newL fz ds A) Q, fun H' n => ⟨src.items.length - (i + 1), by omega, rfl, n⟩, fun x H' y => ?_⟩
      obtain ⟨W3, e3, R3, r3⟩ := yld x H' y
      refine ⟨W3, ρ', A', wipeD σd vs, src.items[i], R3, (hE.wipe vs).mono (e'.ex.trans e3.ex), r3, ?_⟩
      cases em : mt src.items[i] (wipeD σd vs) A' with
      | ok σ4 A4 =>
        rw [em] at P'
        refine fun W5 ρ5 H5 σ5 e5 R5 er5 => ⟨?_, ?_⟩
        · have z1 := wipe_same (σ := wipe σ vs) (σ' := σ5) (vs := vs) er5.len er5.out
          have z2 := wipe_same (σ := σ) (σ' := wipe σ vs) (vs := vs) (wipe_length σ vs) (fun j hj => wipe_out hj)
          exact z1.trans z2
        refine ⟨W5, ρ5, A4, σ4, R5, er5.er, ?_⟩
        simp only at P'
        cases em2 : m1 σ4 A4 with
        | ok b A6 =>
          rw [em2] at P'
          intro W6 ρ6 H6 b' e6 R6 rb
          subst rb
          have e36 := (e3.trans e5).trans e6
          obtain ⟨h6, n6, w6⟩ := e36.fr p _ h' n'
          cases b with
          | false =>
            refine (if_neg Bool.false_ne_true).mpr ⟨hlt, W6, ρ6, A6, acc, vacc, e'.then e36, R6, n6, w6 w', h6, r'.mono e36.ex, P'⟩
          | true =>
            refine (if_pos rfl).mpr ⟨W6, ρ6, A6, σ4, R6, er5.er.mono e6.ex, ?_⟩
            simp only at P'
            cases em3 : me σ4 A6 with
            | ok y A7 =>
              rw [em3] at P'
              intro W7 ρ7 H7 v7 e7 R7 r7
              obtain ⟨h7, n7, w7⟩ := e7.fr p _ h6 n6
              have w7' := w7 (w6 w')
              refine ⟨vacc, h7, by rw [← r'.length]; exact hz, hlt, W7, ρ7, A7, acc ++ [y], vacc ++ [v7], (e'.then (e36.trans e7)).put, R7.upd n7 w7', n7, w7', upd_same, (r'.mono (e36.trans e7).ex).append (.cons r7 .nil), P'⟩
            | ex c' fs A7 => rw [em3] at P'; exact P'.elim
            | no => rw [em3] at P'; exact P'.elim
        | ex c' fs A6 => rw [em2] at P'; exact P'.elim
        | no => rw [em2] at P'; exact P'.elim
      | ex c' fs A4 => rw [em] at P'; exact P'.elim
      | no => rw [em] at P'; exact P'.elim
    · exact P'.elim
  · have hi' : i = src.items.length := by omega
    subst hi'
    rw [List.drop_length] at P'
    unfold lcD at P'
    split at P'
    · rename_i ok
      refine .inl ⟨(hJ W' ρ' A' H2 _ e'.ex R' ok).1 (Nat.le_refl _), ?_⟩
      have P2 : Post ⟨X.K, c⟩ (VR ⟨X.K, c⟩) EX W ρ H1 σ (newL fz acc A') Q := P'
      unfold newL at P2
      split at P2
      · cases fz with
        | true =>
          obtain ⟨x1, R2, v2, w2⟩ := R'.adoptW n' w' h' r'
          have ed : ExtD p W ρ H1 (upd W' p (.lst vacc)) ρ' H2 := ⟨e'.ex.trans x1, fun q o z h n => by
            obtain ⟨a1, a2, a3⟩ := e'.fr q o z h n
            exact ⟨a1, a2, fun w => w2 q z (a3 w)⟩⟩
          exact P2 _ _ _ _ (ed.done hp) R2 v2
        | false =>
          obtain ⟨x1, R2, v2⟩ := R'.adopt n' w' h' r'
          have ed : ExtD p W ρ H1 W' (ρ' ++ [p]) H2 := ⟨e'.ex.trans x1, fun q o z h n => by
            obtain ⟨a1, a2, a3⟩ := e'.fr q o z h n
            exact ⟨a1, fun m => (List.mem_append.mp m).elim a2 fun m => z (List.mem_singleton.mp m), a3⟩⟩
          exact P2 _ _ _ _ (ed.done hp) R2 v2
      · exact P2.elim
    · exact P'.elim
theorem sts_nil : PTs X [] (tT ⟨X.K, c⟩ EX mYes) := ⟨fun pins s σ H Q I h => pts_nil.run pins s σ H Q I (by
  obtain ⟨W, ρ, A, σd, hR, hE, hP⟩ := h
  exact Post.val (d := true) hR rfl hP)⟩
theorem sts_one (h : PT X elt (tT ⟨X.K, c⟩ EX m1)) : PTs X [elt] (tT ⟨X.K, c⟩ EX m1) := pts_one h
theorem se_lc {fz : Bool} (hc : X.calm = true) (hN : X.N.Nodup) (hi : PI X tg iter (tI ⟨X.K, c⟩ EX mi)) (ok : BlkOk X.N X.env.scope scope own)
    (hg : ∀ (s : Shared) (H : Hp) (C : Addr) (cl : List (Str × Addr)) (fp : List Addr), PG (X.blk s H scope (compEnvC scope cl C X.env) fp) tg (tG ⟨X.K, c⟩ (own.map (·.2)) mt))
    (ht : ∀ (s : Shared) (H : Hp) (C : Addr) (cl : List (Str × Addr)) (fp : List Addr), PTs (X.blk s H scope (compEnvC scope cl C X.env) fp) ifs (tT ⟨X.K, c⟩ noX m1))
    (he : ∀ (s : Shared) (H : Hp) (C : Addr) (cl : List (Str × Addr)) (fp : List Addr), PE (X.blk s H scope (compEnvC scope cl C X.env) fp) elt (tE ⟨X.K, c⟩ noX me))
    (hs : ∀ x, foldedSetIterable iter X.env x = pure x := by intro _; rfl) : PE X (.ListComp elt [⟨tg, iter, ifs, 0⟩] scope pos) (tE ⟨X.K, c⟩ EX (mLc fz mi mt m1 me (own.map (·.2)))) :=
  PE.imp (pe_lc hc hN hi ok hg ht he hs) fun σ H Q h => lc_imp h
theorem ss_setLc {fz : Bool} {i : Nat} {y : Str} {py spos : Pos} (hc : X.calm = true) (hN : X.N.Nodup) (hy : X.N[i]? = some y) (hyl : X.env.scope.names.lookup y = some .local)
    (hsw : swapsWith (.ListComp elt [⟨tg, iter, ifs, 0⟩] scope pos) (some (.Name y py)) spos.line X.env = pure true) (hi : PI X tg iter (tI ⟨X.K, c⟩ EX mi)) (ok : BlkOk X.N X.env.scope scope own)
    (hg : ∀ (s : Shared) (H : Hp) (C : Addr) (cl : List (Str × Addr)) (fp : List Addr), PG (X.blk s H scope (compEnvC scope cl C X.env) fp) tg (tG ⟨X.K, c⟩ (own.map (·.2)) mt))
    (ht : ∀ (s : Shared) (H : Hp) (C : Addr) (cl : List (Str × Addr)) (fp : List Addr), PTs (X.blk s H scope (compEnvC scope cl C X.env) fp) ifs (tT ⟨X.K, c⟩ noX m1))
    (he : ∀ (s : Shared) (H : Hp) (C : Addr) (cl : List (Str × Addr)) (fp : List Addr), PE (X.blk s H scope (compEnvC scope cl C X.env) fp) elt (tE ⟨X.K, c⟩ noX me))
    (hs : ∀ x, foldedSetIterable iter X.env x = pure x := by intro _; rfl) : PS X (.Assign [.Name y py] (.ListComp elt [⟨tg, iter, ifs, 0⟩] scope pos) spos) (tS ⟨X.K, c⟩ EX (sSet i (mLc fz mi mt m1 me (own.map (·.2))))) :=
  PS.imp (ps_setLc hc hN hy hyl hsw hi ok hg ht he hs) fun D' σ H q => lc_imp ((tS.withE (rel := VR ⟨X.K, c⟩) q).weak fun v H' ⟨W, ρ, A, σd, d, hR, hE, r, hP⟩ => PostS.val hR hP _ (hE.set i r))
end
end Vi
end
section
set_option Elab.async false
set_option linter.all false
set_option maxRecDepth 100000
set_option maxHeartbeats 2000000
namespace Vi
open PySem PySem.Spec L2
open PySem.P (repr_of_none repr_of_bool repr_of_int repr_of_str)
/-! built-in functions -/
def fLen (xs : List D) (A : List O) : R D := match xs with
  | [.str s] => if s.length ≤ sizeLine then .ok (.int s.length) A else .no
  | [x] => match seqOf x A with
    | some ds => .ok (.int ds.length) A
    | none => .no
  | _ => .no
def isTy (x : D) (t : Ty) (A : List O) : Option Bool := match x with
  | .non => some false
  | .bl _ => some (t == .bool || t == .int)
  | .int _ => some (t == .int)
  | .str _ => some (t == .str)
  | .tup _ => some (t == .tuple)
  | .lst _ => some (t == .list)
  | .dk _ _ => some (t == .dict)
  | .ref n => match A[n]? with
    | some (.lst _) => some (t == .list)
    | some (.dct _ _) => some (t == .dict)
    | _ => none
  | _ => none
def fIsi (xs : List D) (A : List O) : R D := match xs with
  | [x, .ty t] => match isTy x t A with
    | some b => .ok (.bl b) A
    | none => .no
  | _ => .no
def fInt (xs : List D) (A : List O) : R D := match xs with
  | [.int i] => .ok (.int i) A
  | [.bl b] => .ok (.int (if b then 1 else 0)) A
  | _ => .no
def fTupOf (xs : List D) (A : List O) : R D := match xs with
  | [.tup ds] => .ok (.tup ds) A
  | [x] => match lstOf x A with
    | some ds => .ok (.tup ds) A
    | none => .no
  | _ => .no
def fListOf (fz : Bool) (xs : List D) (A : List O) : R D := match xs with
  | [x] => match seqOf x A with
    | some ds => newL fz ds A
    | none => .no
  | _ => .no
def bools : List D → Option (List Bool)
  | [] => some []
  | .bl b :: ds => (bools ds).map fun bs => b :: bs
  | _ => none
def intsOf : List D → Option (List Int)
  | [] => some []
  | .int i :: ds => (intsOf ds).map fun is => i :: is
  | _ => none
def fAll (xs : List D) (A : List O) : R D := match xs with
  | [x] => match (lstOf x A).bind bools with
    | some bs => .ok (.bl (bs.all id)) A
    | none => .no
  | _ => .no
def fAny (xs : List D) (A : List O) : R D := match xs with
  | [x] => match (lstOf x A).bind bools with
    | some bs => .ok (.bl (bs.any id)) A
    | none => .no
  | _ => .no
def fSum (xs : List D) (A : List O) : R D := match xs with
  | [x] => match (lstOf x A).bind intsOf with
    | some is => .ok (.int is.sum) A
    | none => .no
  | _ => .no
def fMin2 (xs : List D) (A : List O) : R D := match xs with
  | [.int i, .int j] => .ok (.int (if j < i then j else i)) A
  | _ => .no
def fMax2 (xs : List D) (A : List O) : R D := match xs with
  | [.int i, .int j] => .ok (.int (if j > i then j else i)) A
  | _ => .no
theorem Rl.lists {g : G} {W : Hp} {ρ : List Addr} {ds : List D} {vs : List V} {bs : List Bool} (r : VRs g W ρ ds vs) (h : bools ds = some bs) : vs = bs.map V.bl := by
  induction ds generalizing vs bs with
  | nil => cases r; cases h; rfl
  | cons d ds ih =>
    cases r with
    | cons r1 r2 =>
      cases r1 with
      | bl b =>
        obtain ⟨cs, h1, rfl⟩ := Option.map_eq_some_iff.mp (show (bools ds).map (fun bs => b :: bs) = some bs from h)
        rw [ih r2 h1]; rfl
      | _ => cases h
theorem Rl.ints_ {g : G} {W : Hp} {ρ : List Addr} {ds : List D} {vs : List V} {bs : List Int} (r : VRs g W ρ ds vs) (h : intsOf ds = some bs) : vs = bs.map V.int := by
  induction ds generalizing vs bs with
  | nil => cases r; cases h; rfl
  | cons d ds ih =>
    cases r with
    | cons r1 r2 =>
      cases r1 with
      | int b =>
        obtain ⟨cs, h1, rfl⟩ := Option.map_eq_some_iff.mp (show (intsOf ds).map (fun bs => b :: bs) = some bs from h)
        rw [ih r2 h1]; rfl
      | _ => cases h
section
variable {g : G} {W : Hp} {ρ : List Addr} {A : List O} {H : Hp}
theorem VRs.one_ {d : D} {vs : List V} (r : VRs g W ρ [d] vs) : ∃ v, vs = [v] ∧ VR g W ρ d v := by
  cases r with
  | cons r1 r2 => cases r2; exact ⟨_, rfl, r1⟩
theorem VRs.two_ {d e : D} {vs : List V} (r : VRs g W ρ [d, e] vs) : ∃ v u, vs = [v, u] ∧ VR g W ρ d v ∧ VR g W ρ e u := by
  cases r with
  | cons r1 r2 =>
    obtain ⟨u, rfl, r3⟩ := r2.one_
    exact ⟨_, _, rfl, r1, r3⟩
theorem cs_len : CallS g (fun xs H Q => ∃ x n, xs = [x] ∧ LenV g.K x H n ∧ Q (.int n) H) fLen := by
  intro EX W ρ A H σ xs vs Q hR r h
  unfold fLen at h
  split at h
  · obtain ⟨v, rfl, r1⟩ := r.one_
    split at h
    · rename_i hz
      cases r1
      exact ⟨_, _, rfl, ⟨hz, rfl⟩, Post.val hR (.int _) h⟩
    · exact h.elim
  · rename_i x _
    obtain ⟨v, rfl, r1⟩ := r.one_
    split at h
    · rename_i ds e
      obtain ⟨a, us, rfl, hq, r2⟩ := seqOf_ok hR r1 e
      refine ⟨_, ds.length, rfl, ?_, Post.val hR (.int _) h⟩
      rcases hq with hq | hq
      · exact .inl ⟨us, hq, r2.length⟩
      · exact .inr ⟨us, hq, r2.length⟩
    · exact h.elim
  · exact h.elim
theorem cs_int : CallS g (fun xs H Q => (∃ i, xs = [.int i] ∧ Q (.int i) H) ∨ ∃ k, xs = [.bl k] ∧ Q (.int (if k then 1 else 0)) H) fInt := by
  intro EX W ρ A H σ xs vs Q hR r h
  unfold fInt at h
  split at h
  · obtain ⟨v, rfl, r1⟩ := r.one_
    cases r1
    exact .inl ⟨_, rfl, Post.val hR (.int _) h⟩
  · obtain ⟨v, rfl, r1⟩ := r.one_
    cases r1
    exact .inr ⟨_, rfl, Post.val hR (.int _) h⟩
  · exact h.elim
theorem cs_tupOf : CallS g (fun xs H Q => ∃ p ys, xs = [.ref p] ∧ ((SqL g.K H p ys ∧ ∀ l, H l = none → Q (.ref l) (upd H l (.tup ys))) ∨ (SqT g.K H p ys ∧ Q (.ref p) H))) fTupOf := by
  intro EX W ρ A H σ xs vs Q hR r h
  unfold fTupOf at h
  split at h
  · obtain ⟨v, rfl, r1⟩ := r.one_
    cases r1 with
    | tup h1 r1 => exact ⟨_, _, rfl, .inr ⟨sqT_up hR h1, Post.val hR (.tup h1 r1) h⟩⟩
  · obtain ⟨v, rfl, r1⟩ := r.one_
    split at h
    · rename_i ds e
      obtain ⟨a, us, rfl, hq, r2⟩ := lstOf_ok hR r1 e
      exact ⟨a, us, rfl, .inl ⟨SqL.of hq, fun p hp => newT_post hR r2 h hp⟩⟩
    · exact h.elim
  · exact h.elim
theorem cs_listOf {fz : Bool} : CallS g (fun xs H Q => ∃ p ys, xs = [.ref p] ∧ (SqL g.K H p ys ∨ SqT g.K H p ys) ∧ ∀ l, H l = none → Q (.ref l) (upd H l (.lst ys))) (fListOf fz) := by
  intro EX W ρ A H σ xs vs Q hR r h
  unfold fListOf at h
  split at h
  · obtain ⟨v, rfl, r1⟩ := r.one_
    split at h
    · rename_i ds e
      obtain ⟨a, us, rfl, hq, r2⟩ := seqOf_ok hR r1 e
      exact ⟨a, us, rfl, hq, fun p hp => newL_post hR r2 h hp⟩
    · exact h.elim
  · exact h.elim
theorem cs_sum : CallS g (rSum g.K) fSum := by
  intro EX W ρ A H σ xs vs Q hR r h
  unfold fSum at h
  split at h
  · obtain ⟨v, rfl, r1⟩ := r.one_
    split at h
    · rename_i bs e
      obtain ⟨ds, e1, e2⟩ := Option.bind_eq_some_iff.mp e
      obtain ⟨a, us, rfl, hq, r2⟩ := lstOf_ok hR r1 e1
      cases Rl.ints_ r2 e2
      exact ⟨a, bs, rfl, SqL.of hq, Post.val hR (.int _) h⟩
    · exact h.elim
  · exact h.elim
theorem cs_min2 : CallS g (fun xs H Q => ∃ i j, xs = [.int i, .int j] ∧ Q (.int (if j < i then j else i)) H) fMin2 := by
  intro EX W ρ A H σ xs vs Q hR r h
  unfold fMin2 at h
  split at h
  · obtain ⟨v, u, rfl, r1, r2⟩ := r.two_
    cases r1; cases r2
    exact ⟨_, _, rfl, Post.val hR (.int _) h⟩
  · exact h.elim
theorem cs_max2 : CallS g (fun xs H Q => ∃ i j, xs = [.int i, .int j] ∧ Q (.int (if j > i then j else i)) H) fMax2 := by
  intro EX W ρ A H σ xs vs Q hR r h
  unfold fMax2 at h
  split at h
  · obtain ⟨v, u, rfl, r1, r2⟩ := r.two_
    cases r1; cases r2
    exact ⟨_, _, rfl, Post.val hR (.int _) h⟩
  · exact h.elim
theorem cs_isi : CallS g (rIsi g.K) fIsi := by
  intro EX W ρ A H σ xs vs Q hR r h
  unfold fIsi at h
  split at h
  · rename_i x t
    obtain ⟨v, u, rfl, r1, r2⟩ := r.two_
    cases r2
    split at h
    · rename_i b e
      have fin : ∀ (T : String), TyX g.K H v (.type T) → kitB T t.nm = some b → rIsi g.K [v, .ty t.nm] H Q := fun T hT hk => ⟨v, .ty t.nm, .type T, .type t.nm, b, rfl, .ty _, hT, kit_ty hk, Post.val hR (.bl _) h⟩
      cases r1 with
      | non => exact fin "NoneType" (.base .non) (by cases e; cases t <;> decide +kernel)
      | bl => exact fin "bool" (.base (.bl _)) (by cases e; cases t <;> decide +kernel)
      | int => exact fin "int" (.base (.int _)) (by cases e; cases t <;> decide +kernel)
      | str => exact fin "str" (.base (.str _)) (by cases e; cases t <;> decide +kernel)
      | tup h1 _ =>
        have k : kitB "tuple" t.nm = some b := by cases e; cases t <;> decide +kernel
        rcases sqT_up hR h1 with (q | ⟨o, q⟩) | ⟨o, its, n, q, hc, _⟩
        · exact fin "tuple" (.base (.tup q)) k
        · exact fin "tuple" (.fTuple q) k
        · exact fin "tuple" (.kTuple q hc) k
      | lst h1 _ => exact fin "list" (.base (.lst (hR.ext _ _ h1))) (by cases e; cases t <;> decide +kernel)
      | dk h1 _ _ _ => exact fin "dict" (.base (.dK (hR.ext _ _ h1))) (by cases e; cases t <;> decide +kernel)
      | @ref n a h1 =>
        unfold isTy at e
        simp only at e
        split at e
        · rename_i ds e2
          obtain ⟨us, e3, _⟩ := hR.obj n _ a e2 h1
          exact fin "list" (.base (.lst e3)) (by cases e; cases t <;> decide +kernel)
        · rename_i ks ds e2
          obtain ⟨us, e3, _⟩ := hR.obj n _ a e2 h1
          exact fin "dict" (.base (.dK e3)) (by cases e; cases t <;> decide +kernel)
        · cases e
      | _ => cases e
    · exact h.elim
  · exact h.elim
end
end Vi
end
section
set_option Elab.async false
set_option linter.all false
set_option maxRecDepth 100000
set_option maxHeartbeats 2000000
namespace Vi
open PySem PySem.Spec L2
/-! more sources -/
def rng (lo : Int) (n : Nat) : List D := (List.range n).map fun i => .int (lo + (i : Nat))
section
noncomputable local instance (priority := 10000) clsd (p : Prop) : Decidable p := Classical.propDecidable p
noncomputable def fRange1 (xs : List D) (A : List O) : R Src := match xs with
  | [.int j] => if -(2 ^ 62) ≤ j ∧ j < 2 ^ 62 then .ok (.fix (rng 0 j.toNat)) A else .no
  | _ => .no
noncomputable def fRange2 (xs : List D) (A : List O) : R Src := match xs with
  | [.int i, .int j] => if -(2 ^ 62) ≤ i ∧ i < 2 ^ 62 ∧ -(2 ^ 62) ≤ j ∧ j < 2 ^ 62 then .ok (.fix (rng i (j - i).toNat)) A else .no
  | _ => .no
end
def enumD (k : Nat) : List D → List D
  | [] => []
  | d :: ds => .tup [.int k, d] :: enumD (k + 1) ds
def zipD : List D → List D → List D
  | x :: xs, y :: ys => .tup [x, y] :: zipD xs ys
  | _, _ => []
def fEnum (xs : List D) (A : List O) : R Src := match xs with
  | [.lst ds] => .ok (.fix (enumD 0 ds)) A
  | [.ref n] => match A[n]? with
    | some (.lst ds) => .ok ⟨fun A => lstOf (.ref n) A = some ds, enumD 0 ds⟩ A
    | _ => .no
  | _ => .no
def fZip (xs : List D) (A : List O) : R Src := match xs with
  | [.tup ds, .tup es] => .ok (.fix (zipD ds es)) A
  | [x, y] => match lstOf x A, lstOf y A with
    | some ds, some es => .ok ⟨fun A => lstOf x A = some ds ∧ lstOf y A = some es, zipD ds es⟩ A
    | _, _ => .no
  | _ => .no
def mSrcA (f : List D → List O → R Src) (mr : M (List D)) : M Src := fun σ A => (mr σ A).bind f
section
variable {X : Cx} {c : String → Addr} {EX : WX} {tg e e2 : Expr} {mr : M (List D)} {p pos tpos : Pos} {elts : List Expr} {kk : Nat}
theorem si_range1 (hg : Gl X "range") (hm : X.mg "range" = none) (ha : PA X [e] (tA ⟨X.K, c⟩ EX mr)) (hs : starEach [e] X.env = [(false, eval e X.env)] := by rfl) : PI X tg (.Call (.Name "range" p) [e] [] pos) (tI ⟨X.K, c⟩ EX (mSrcA fRange1 mr)) :=
  PI.imp (pi_range1 hg hm ha hs) fun σ H R h => (tM.bind (rel := VRs ⟨X.K, c⟩) (m := mr) (f := fun _ => fRange1) h).weak fun vs H1 ⟨W, ρ, A, σd, xs, hR, hE, rx, hP⟩ => by
    unfold fRange1 at hP
    split at hP
    · obtain ⟨v, rfl, r1⟩ := rx.one_
      cases r1 with
      | int j =>
        split at hP
        · rename_i hj
          exact ⟨_, rfl, hj.1, hj.2, Post.val hR src_range hP⟩
        · exact hP.elim
    · exact hP.elim
end
/-! methods of lists -/
def isL (x : D) (A : List O) : Bool := (seqOf x A).isSome && (match x with | .tup _ => false | _ => true)
def mMeth (chk : D → List O → Bool) (f : D → List D → List O → R D) (ma : M D) (mr : M (List D)) : M D := fun σ A => (ma σ A).bind fun x A => if chk x A then (mr σ A).bind fun xs A => f x xs A else .no
def mMeth0 (chk : D → List O → Bool) (f : D → List D → List O → R D) (ma : M D) : M D := fun σ A => (ma σ A).bind fun x A => if chk x A then f x [] A else .no
def TyS (g : G) (T : String) (chk : D → List O → Bool) : Prop := ∀ {W : Hp} {ρ : List Addr} {A : List O} {H : Hp} {x : D} {v : V}, Rl g W ρ A H → VR g W ρ x v → chk x A = true → tyV g.K T v H
def MethS (g : G) (r : V → List V → Hp → VK → Prop) (f : D → List D → List O → R D) : Prop :=
  ∀ {EX : WX} {W : Hp} {ρ : List Addr} {A : List O} {H : Hp} {σ : L2.St} {x : D} {v : V} {xs : List D} {vs : List V} {Q : VK}, Rl g W ρ A H → VR g W ρ x v → VRs g W ρ xs vs → Post g (VR g) EX W ρ H σ (f x xs A) Q → r v vs H Q
theorem ty_list {g : G} : TyS g "list" isL := by
  intro W ρ A H x v hR r h
  unfold isL at h
  simp only [Bool.and_eq_true] at h
  obtain ⟨h1, h2⟩ := h
  obtain ⟨ds, e⟩ := Option.isSome_iff_exists.mp h1
  cases r with
  | tup _ _ => cases h2
  | scr h3 r3 => exact .inl ⟨rfl, _, sqL_up hR h3⟩
  | lst h3 r3 => exact .inl ⟨rfl, _, SqL.of (hR.ext _ _ h3)⟩
  | @ref n a h3 =>
    obtain ⟨a', vs, ea, h4, r4⟩ := lstOf_ok hR (.ref h3) e
    cases ea
    exact .inl ⟨rfl, _, SqL.of h4⟩
  | _ => cases e
def isS (x : D) (_ : List O) : Bool := match x with
  | .str _ => true
  | _ => false
section
variable {X : Cx} {c : String → Addr} {EX : WX} {T id : String} {name : Str} {o e : Expr} {es : List Expr} {ma : M D} {mr : M (List D)} {apos cpos : Pos} {r : V → List V → Hp → VK → Prop} {f : D → List D → List O → R D} {chk : D → List O → Bool}
theorem se_bm (pa : PlainAttrs T) (slot : Slot T name id) (hty : typeOf (.builtin id) = pure (.type "method_descriptor")) (hm : MtR X id r) (ht : TyS ⟨X.K, c⟩ T chk) (hs : MethS ⟨X.K, c⟩ r f) (ho : PE X o (tE ⟨X.K, c⟩ EX ma)) (ha : PA X (e :: es) (tA ⟨X.K, c⟩ EX mr))
    (pe : PE X (.Call (.Attribute o name apos) (e :: es) [] cpos) (tBM X.K T r (tE ⟨X.K, c⟩ EX ma) (tA ⟨X.K, c⟩ EX mr))) : PE X (.Call (.Attribute o name apos) (e :: es) [] cpos) (tE ⟨X.K, c⟩ EX (mMeth chk f ma mr)) :=
  PE.imp pe fun σ H Q h => (tM.bind (rel := VR ⟨X.K, c⟩) (m := ma) h).weak fun v H1 ⟨W, ρ, A, σd, x, hR, hE, rx, hP⟩ => by
    split at hP
    · rename_i hc
      refine ⟨ht hR rx hc, W, ρ, A, σd, hR, hE, (Post.bind (rel := VRs ⟨X.K, c⟩) hP).weak fun vs H2 ⟨W2, ρ2, A2, xs, e2, R2, r2, _, P2⟩ => ?_⟩
      exact hs R2 (rx.mono e2.ex) r2 P2
    · exact hP.elim
end
def ourL (x : D) (A : List O) : Option (Nat × List D) := match x with
  | .ref n => match A[n]? with
    | some (.lst ds) => some (n, ds)
    | _ => none
  | _ => none
def fAppend (x : D) (xs : List D) (A : List O) : R D := match ourL x A, xs with
  | some (n, ds), [y] => if ds.length < sizeLine then .ok .non (A.set n (.lst (ds ++ [y]))) else .no
  | _, _ => .no
def fExtend (x : D) (xs : List D) (A : List O) : R D := match ourL x A, xs with
  | some (n, ds), [y] => match lstOf y A with
    | some es => if ds.length + es.length ≤ sizeLine then .ok .non (A.set n (.lst (ds ++ es))) else .no
    | none => .no
  | _, _ => .no
section
variable {g : G} {W : Hp} {ρ : List Addr} {A : List O} {H : Hp}
theorem VRs.dropLast : ∀ {ds : List D} {vs : List V}, VRs g W ρ ds vs → VRs g W ρ ds.dropLast vs.dropLast
  | _, _, .nil => .nil
  | _, _, .cons _ .nil => .nil
  | _, _, .cons r (.cons q t) => .cons r (VRs.dropLast (.cons q t))
theorem ourL_ok {x : D} {v : V} {n : Nat} {ds : List D} (hR : Rl g W ρ A H) (r : VR g W ρ x v) (h : ourL x A = some (n, ds)) : ∃ a vs, v = .ref a ∧ H a = some (.lst vs) ∧ VRs g W ρ ds vs ∧
    ∀ es us, VRs g W ρ es us → Ext W ρ H W ρ (upd H a (.lst us)) ∧ Rl g W ρ (A.set n (.lst es)) (upd H a (.lst us)) := by
  cases r with
  | @ref m a h1 =>
    unfold ourL at h
    simp only at h
    split at h
    · rename_i ds' e
      cases h
      obtain ⟨vs, e2, r2⟩ := hR.obj n _ a e h1
      exact ⟨a, vs, rfl, e2, r2, fun es us k => ⟨Rl.putE h1, hR.put e (fun z => nomatch z) h1 ⟨us, rfl, k⟩⟩⟩
    · cases h
  | _ => cases h
theorem ms_append : MethS g rAppend fAppend := by
  intro EX W ρ A H σ x v xs vs Q hR rx rs h
  unfold fAppend at h
  split at h
  · rename_i n ds y e
    obtain ⟨a, us, rfl, hq, r2, up⟩ := ourL_ok hR rx e
    obtain ⟨w, rfl, rw'⟩ := rs.one_
    split at h
    · rename_i hz
      obtain ⟨e3, R3⟩ := up _ _ (r2.append (.cons rw' .nil))
      exact ⟨a, us, w, rfl, rfl, hq, by rw [← r2.length]; exact hz, h _ _ _ _ e3 R3 .non⟩
    · exact h.elim
  · exact h.elim
theorem ms_extend : MethS g rExtend fExtend := by
  intro EX W ρ A H σ x v xs vs Q hR rx rs h
  unfold fExtend at h
  split at h
  · rename_i n ds y e
    obtain ⟨a, us, rfl, hq, r2, up⟩ := ourL_ok hR rx e
    obtain ⟨w, rfl, rw'⟩ := rs.one_
    split at h
    · rename_i es e2
      obtain ⟨b, ws, rfl, hq2, r4⟩ := lstOf_ok hR rw' e2
      split at h
      · rename_i hz
        obtain ⟨e3, R3⟩ := up _ _ (r2.append r4)
        exact ⟨a, b, us, ws, rfl, rfl, hq, hq2, by rw [← r2.length, ← r4.length]; exact hz, h _ _ _ _ e3 R3 .non⟩
      · exact h.elim
    · exact h.elim
  · exact h.elim
end
end Vi
end
section
set_option Elab.async false
set_option linter.all false
set_option maxRecDepth 100000
set_option maxHeartbeats 2000000
namespace Vi
open PySem PySem.Spec L2
open PyProof.Rows (envOfC AllBare)
/-! a def by its body's meaning -/
def endB (r : R Fl) : R D := match r with
  | .ok (.nx _) A => .ok .non A
  | .ok (.rt d) A => .ok d A
  | .ok (.xc c fs _) A => .ex c fs A
  | _ => .no
/-! what a def has made and nobody names any longer is forgotten -/
mutual
def noR : D → Bool
  | .tup ds => noRs ds
  | .lst ds => noRs ds
  | .scr ds => noRs ds
  | .ref _ => false
  | .obj _ _ ds => noRs ds
  | .exc _ _ ds => noRs ds
  | .dk _ ds => noRs ds
  | .db _ ds => noRs ds
  | .dz _ ds => noRs ds
  | .non => true
  | .bl _ => true
  | .int _ => true
  | .str _ => true
  | .ty _ => true
  | .cls _ => true
  | .rng _ _ => true
def noRs : List D → Bool
  | [] => true
  | d :: ds => noR d && noRs ds
end
def noRO : O → Bool
  | .lst ds => noRs ds
  | .dct _ ds => noRs ds
  | .dtb _ ds => noRs ds
  | .ins _ _ ds => noRs ds
  | .dead => true
theorem noRs_all : ∀ ds : List D, noRs ds = ds.all noR
  | [] => rfl
  | d :: ds => by rw [noRs, List.all_cons, noRs_all ds]
mutual
theorem VR.noref {g : G} {W : Hp} {ρ ρ2 : List Addr} : ∀ {d : D} {v : V}, VR g W ρ d v → noR d = true → VR g W ρ2 d v
  | _, _, .non, _ => .non
  | _, _, .bl b, _ => .bl b
  | _, _, .int i, _ => .int i
  | _, _, .str s, _ => .str s
  | _, _, .tup h r, e => .tup h (VRs.noref r (by simpa [noR] using e))
  | _, _, .lst h r, e => .lst h (VRs.noref r (by simpa [noR] using e))
  | _, _, .scr h r, e => .scr h (VRs.noref r (by simpa [noR] using e))
  | _, _, .ref h, e => by simp [noR] at e
  | _, _, .ty n, _ => .ty n
  | _, _, .cls c, _ => .cls c
  | _, _, .rng h, _ => .rng h
  | _, _, .exc h l r, e => .exc h l (VRs.noref r (by simpa [noR] using e))
  | _, _, .obj h l r, e => .obj h l (VRs.noref r (by simpa [noR] using e))
  | _, _, .dk h l n r, e => .dk h l n (VRs.noref r (by simpa [noR] using e))
  | _, _, .db h l k r, e => .db h l k (VRs.noref r (by simpa [noR] using e))
  | _, _, .dz h l n r, e => .dz h l n (VRs.noref r (by simpa [noR] using e))
theorem VRs.noref {g : G} {W : Hp} {ρ ρ2 : List Addr} : ∀ {ds : List D} {vs : List V}, VRs g W ρ ds vs → noRs ds = true → VRs g W ρ2 ds vs
  | _, _, .nil, _ => .nil
  | _, _, .cons r t, e => by
    rw [noRs, Bool.and_eq_true] at e
    exact .cons (VR.noref r e.1) (VRs.noref t e.2)
end
mutual
theorem VR.bnd {g : G} {W W' : Hp} {ρ ρ' : List Addr} (ex : Ex2 W ρ W' ρ') : ∀ {d : D} {v v0 : V}, VR g W' ρ' d v → VR g W ρ d v0 → VR g W' ρ d v
  | _, _, _, .non, _ => .non
  | _, _, _, .bl b, _ => .bl b
  | _, _, _, .int i, _ => .int i
  | _, _, _, .str s, _ => .str s
  | _, _, _, .tup h r, .tup _ r0 => .tup h (VRs.bnd ex r r0)
  | _, _, _, .lst h r, .lst _ r0 => .lst h (VRs.bnd ex r r0)
  | _, _, _, .scr h r, .scr _ r0 => .scr h (VRs.bnd ex r r0)
  | _, _, _, .ref h, .ref h0 => .ref (by
    have := ex.pre _ _ h0
    rw [h] at this; cases this
    exact h0)
  | _, _, _, .ty n, _ => .ty n
  | _, _, _, .cls c, _ => .cls c
  | _, _, _, .rng h, _ => .rng h
  | _, _, _, .exc h l r, .exc _ _ r0 => .exc h l (VRs.bnd ex r r0)
  | _, _, _, .obj h l r, .obj _ _ r0 => .obj h l (VRs.bnd ex r r0)
  | _, _, _, .dk h l n r, .dk _ _ _ r0 => .dk h l n (VRs.bnd ex r r0)
  | _, _, _, .db h l k r, .db _ _ _ r0 => .db h l k (VRs.bnd ex r r0)
  | _, _, _, .dz h l n r, .dz _ _ _ r0 => .dz h l n (VRs.bnd ex r r0)
theorem VRs.bnd {g : G} {W W' : Hp} {ρ ρ' : List Addr} (ex : Ex2 W ρ W' ρ') : ∀ {ds : List D} {vs vs0 : List V}, VRs g W' ρ' ds vs → VRs g W ρ ds vs0 → VRs g W' ρ ds vs
  | _, _, _, .nil, _ => .nil
  | _, _, _, .cons r t, .cons r0 t0 => .cons (VR.bnd ex r r0) (VRs.bnd ex t t0)
end
theorem OR.noref {g : G} {W : Hp} {ρ ρ2 : List Addr} {a : Addr} {o : O} {h : Option HO} (r : OR g W ρ a o h) (e : noRO o = true) : OR g W ρ2 a o h := by
  cases o with
  | lst ds => obtain ⟨vs, e1, r⟩ := r; exact ⟨vs, e1, r.noref e⟩
  | dct ks ds => obtain ⟨vs, e1, l, n, r⟩ := r; exact ⟨vs, e1, l, n, r.noref e⟩
  | dtb ks ds => obtain ⟨ps, vs, e1, l, k, r⟩ := r; exact ⟨ps, vs, e1, l, k, r.noref e⟩
  | ins c ns ds => obtain ⟨dx, vs, e1, l, r⟩ := r; exact ⟨dx, vs, e1, l, r.noref e⟩
  | dead => trivial
theorem OR.bnd {g : G} {W W' : Hp} {ρ ρ' : List Addr} (ex : Ex2 W ρ W' ρ') {a : Addr} {o : O} {h h0 : Option HO} (r : OR g W' ρ' a o h) (r0 : OR g W ρ a o h0) : OR g W' ρ a o h := by
  cases o with
  | lst ds => obtain ⟨vs, e1, r⟩ := r; obtain ⟨_, _, r0⟩ := r0; exact ⟨vs, e1, r.bnd ex r0⟩
  | dct ks ds => obtain ⟨vs, e1, l, n, r⟩ := r; obtain ⟨_, _, _, _, r0⟩ := r0; exact ⟨vs, e1, l, n, r.bnd ex r0⟩
  | dtb ks ds => obtain ⟨ps, vs, e1, l, k, r⟩ := r; obtain ⟨_, _, _, _, _, r0⟩ := r0; exact ⟨ps, vs, e1, l, k, r.bnd ex r0⟩
  | ins c ns ds => obtain ⟨dx, vs, e1, l, r⟩ := r; obtain ⟨_, _, _, _, r0⟩ := r0; exact ⟨dx, vs, e1, l, r.bnd ex r0⟩
  | dead => trivial
def TrimC (A : List O) (d : D) (A' : List O) : Prop := A.length ≤ A'.length ∧ noR d = true ∧ ∀ i, i < A.length → A'[i]? = A[i]? ∨ ∃ o, A'[i]? = some o ∧ noRO o = true
open Classical in
noncomputable def trimR (A : List O) (r : R D) : R D := match r with
  | .ok d A' => if TrimC A d A' then .ok d (A'.take A.length) else .ok d A'
  | r => r
theorem trim_rl {g : G} {W W' : Hp} {ρ ρ' : List Addr} {A A' : List O} {H H' : Hp} {d : D} {v : V} (c : TrimC A d A') (hR : Rl g W ρ A H) (e : Ext W ρ H W' ρ' H') (R' : Rl g W' ρ' A' H') (r : VR g W' ρ' d v) :
    Ext W ρ H W' ρ H' ∧ Rl g W' ρ (A'.take A.length) H' ∧ VR g W' ρ d v := by
  obtain ⟨c1, c2, c3⟩ := c
  refine ⟨⟨⟨e.ex.same, fun _ _ h => h⟩, fun p o h n => ?_⟩, ⟨R'.ext, ?_, hR.nd, fun n o a h1 h2 => ?_, fun n o a h1 h2 => ?_, fun n a h => R'.al n a (e.ex.pre _ _ h)⟩, r.noref c2⟩
  · obtain ⟨h1, _, h3⟩ := e.fr p o h n
    exact ⟨h1, n, h3⟩
  · rw [List.length_take, hR.len]; omega
  · have hn : n < A.length := by rw [← hR.len]; exact (List.getElem?_eq_some_iff.mp h2).1
    rw [List.getElem?_take_of_lt hn] at h1
    have r1 := R'.obj n o a h1 (e.ex.pre _ _ h2)
    rcases c3 n hn with q | ⟨o', q, hq⟩
    · rw [h1] at q
      exact r1.bnd e.ex (hR.obj n o a q.symm h2)
    · rw [h1] at q; cases q
      exact r1.noref hq
  · have hn : n < A.length := by rw [← hR.len]; exact (List.getElem?_eq_some_iff.mp h2).1
    rw [List.getElem?_take_of_lt hn] at h1
    exact R'.nw n o a h1 (e.ex.pre _ _ h2)
theorem trim_post {g : G} {EX : WX} {W : Hp} {ρ : List Addr} {A : List O} {H : Hp} {σ : L2.St} {r : R D} {Q : VK} (hR : Rl g W ρ A H) (h : Post g (VR g) EX W ρ H σ (trimR A r) Q) : Post g (VR g) EX W ρ H σ r Q := by
  cases r with
  | ok d A' =>
    unfold trimR at h
    simp only at h
    split at h
    · rename_i c
      intro W' ρ' H' v e R' r'
      obtain ⟨e2, R2, r2⟩ := trim_rl c hR e R' r'
      exact h _ _ _ _ e2 R2 r2
    · exact h
  | ex c fs A' => exact h
  | no => exact h
noncomputable def runB (N : Nat) (b : SM) (args : List D) (A : List O) : R D := trimR A (endB (b (args.map some ++ List.replicate (N - args.length) none) A))
theorem endB_post {g : G} {EX : WX} {W : Hp} {ρ : List Addr} {H : Hp} {Q : VK} {r : R Fl} {E : XK} (h : Post g (VR g) (fun c d _ H' => E c d H') W ρ H [] (endB r) Q) :
    PostS g (fun c d _ H' => E c d H') W ρ H { nx := fun _ H' => Q .non H', rt := Q } r := by
  cases r with
  | ok fl A =>
    cases fl with
    | nx σ => exact fun W' ρ' H' e R' σ _ => h W' ρ' H' .non e R' .non
    | rt d => exact fun W' ρ' H' e R' v r => h W' ρ' H' v e R' r
    | bk σ => exact (show False from h).elim
    | ct σ => exact (show False from h).elim
    | xc c fs σ => exact fun W' ρ' H' e R' σ dd _ x => h W' ρ' H' dd e R' x
  | ex c fs A => exact (show False from h).elim
  | no => exact (show False from h).elim
section
variable {P : Program} {w : World} {K : PySem.W.Frag} {mg : Str → Option Value} {base : Heap} {c : String → Addr}
theorem fnG_run {x qual : Str} {st : Stmt} {f : Addr} {fd : FuncData} {N ps : List Str} {k n : Nat} {b : SM} (F : FunX K x qual st f fd) (S : FnScope N ps (defScope st)) (hn : ps.length = n)
    (hb : ∀ (X : Cx) (EX : WX), (∃ cdv A outer s H E, X = cxOf (L2.CX P w) P w K mg base N qual (defScope st) f cdv A outer s H E ∧ RoomG k X.A ∧ EX = fun c d _ H' => E c d H') → Takes X EX → PSs X (defBody st) (tS ⟨K, c⟩ EX b)) :
    FnG P w K mg base (k + 1) f fd ps (spG ⟨K, c⟩ n (runB N.length b)) := by
  refine fnG_of F S (fun vs H Q E h => by rw [hn]; exact h.1) fun cdv A outer s H vs Q E hr h => ?_
  obtain ⟨hl, W, ρ, A', ds, hR, rv, hP⟩ := h
  refine ⟨_, hb (cxOf (L2.CX P w) P w K mg base N qual (defScope st) f cdv A outer s H E) (fun c d _ H' => E c d H') ⟨cdv, A, outer, s, H, E, rfl, hr, rfl⟩ (takes_of rfl rfl rfl rfl), ?_⟩
  exact ⟨W, ρ, A', _, hR, ER.start rv, endB_post (EX := fun c d _ H' => E c d H') (trim_post hR hP)⟩
/-- a def that is never reached -/
theorem fnG_no {f : Addr} {fd : FuncData} {ps : List Str} {k n : Nat} : FnG P w K mg base k f fd ps (spG ⟨K, c⟩ n fun _ _ => .no) :=
  ⟨fun vs H Q E h => by obtain ⟨_, _, _, _, _, _, _, h⟩ := h; exact h.elim, fun A outer s H args us vs Q E _ _ _ _ h => by obtain ⟨_, _, _, _, _, _, _, h⟩ := h; exact h.elim⟩
end
/-! the end of a law -/
theorem law_callG {P : Program} {w : World} {K : PySem.W.Frag} {mg mb : Str → Option Value} {k : Nat} {fa a : Addr} {fd : FuncData} {x : Str} {sp : Sp} {s₁ : Shared} {vs : List Value} {ns : List Int}
    (KX : K.In s₁.heap) (hns : s₁.heap.Ns mainGlobals mg) (hb : s₁.heap.Ns builtinsNs mb) (hbb : ∀ x : Str, x ≠ "__name__" → mb x = bootBuiltins x) (hlim : s₁.heap.NoLimit) (hg : s₁.gens = #[])
    (ha : s₁.heap.get? a = some { cls := .type "list", data := .seq vs.toArray }) (hi : PyProof.Rows.IntsAre vs ns) (hl : ns.length ≤ sizeLine) (hr : Room k callerA)
    (F : ∀ base : Heap, K.In base → base.Ns mainGlobals mg → FnG P w K mg base k fa fd [x] sp) (hbind : ∀ (s : Shared) (u : Value), BindsTo s fd ⟨[u], []⟩ [(x, u)])
    (hsp : ∀ H : Hp, Only H → SqL K H a (ns.map V.int) → sp [.ref a] H (fun v _ => v = .bl true) fun _ _ _ => False) :
    codeAny (model P w) callerA (.call (.ref fa) ⟨[.ref a], []⟩) (fun r s' => r = .ok (.ret (.bool true)) ∧ OldK s₁.heap s'.heap ∧ s'.os = s₁.os ∧ AllBare s'.gens) s₁ := by
  have rv := vals_ints hi
  have lenV := hi.length
  have core : ∀ H : Hp, Only H → SqL K H a (ns.map V.int) → HOk P w H s₁.heap → (∀ b, H b ≠ none → b = a) → (H a ≠ none → K.lookup a = none) →
      codeAny (model P w) callerA (.call (.ref fa) ⟨[.ref a], []⟩) (fun r s' => r = .ok (.ret (.bool true)) ∧ OldK s₁.heap s'.heap ∧ s'.os = s₁.os ∧ AllBare s'.gens) s₁ := by
    intro H hO hS hok hA hK
    have only : ∀ {b : Addr} {u : HO}, H b = some u → b = a := fun {b u} q => hA b (by rw [q]; simp)
    have noA : ∀ {b : Addr} {o : Obj} {es : Array DictEntry} {ep : Nat}, s₁.heap.get? b = some o → o.data = .dict es ep → H b = none := by
      intro b o es ep e d
      cases q : H b with
      | none => rfl
      | some u =>
        cases only q
        rw [ha] at e
        cases e
        exact nomatch (show Data.seq vs.toArray _ = Data.dict es ep from d)
    have nsK : ∀ {b : Addr} {m : Str → Option Value}, s₁.heap.Ns b m → (hidT s₁.heap H).Ns b m := by
      rintro b m ⟨o, es, ep, e, d, r⟩
      exact ⟨o, es, ep, hidT_get e (noA e d), d, r⟩
    have hKb : K.In (hidT s₁.heap H) := fun b o e => hidT_get (KX b o e) (by
      cases q : H b with
      | none => rfl
      | some u =>
        cases only q
        rw [hK (by rw [q]; simp)] at e
        cases e)
    have hM : Mod K mg (hidT s₁.heap H) := by
      obtain ⟨mc, h1, h2⟩ := hlim
      exact ⟨hKb, nsK hns, ⟨mb, nsK hb, hbb⟩, ⟨mc, nsK h1, h2⟩⟩
    have e0 : Env0 P w K mg (hidT s₁.heap H) callerA [] s₁ H :=
      ⟨rfl, hM, fun b o e => of_hidT e, Nat.le_of_eq (hidT_size _ _), trivial, fun b z => absurd (show b ∈ ([] : List Addr) from z) (by simp), hok, .of_eq hg⟩
    have run := (F _ hKb (nsK hns)).run callerA [] s₁ H ⟨[.ref a], []⟩ [.ref a] [.ref a] _ _ ⟨hr, rfl⟩ e0 (hbind s₁ (.ref a)) (.cons rfl .nil) (hsp H hO hS)
    refine codeAny_mono run fun r s' h => ?_
    match r, h with
    | .error e, h =>
      obtain ⟨_, _, _, _, _, _, _, _, _, _, _, _, z⟩ := h
      exact z.elim
    | .ok .next, h => exact h.elim
    | .ok .brk, h => exact h.elim
    | .ok .cont, h => exact h.elim
    | .ok (.ret u), h =>
      obtain ⟨v, H', os, bare, un, hok', r', q⟩ := h
      have q' : v = .bl true := q
      subst q'
      obtain rfl : u = Value.bool true := r'
      refine ⟨rfl, OldK.of_keep fun b o e => ?_, os, bare⟩
      cases q : H b with
      | none => exact un.keep b o e q (fun z => absurd (show b ∈ ([] : List Addr) from z) (by simp)) (by simp)
      | some u =>
        rcases hO b with z | ⟨ob, xs, z⟩
        · rw [q] at z; cases z
        · obtain ⟨e1, _⟩ := hok b _ z
          obtain ⟨e2, _⟩ := hok' b _ (un.frzs b ob _ z)
          rw [e] at e1
          cases e1
          exact e2
  cases hk : K.lookup a with
  | some o =>
    have e := KX a o hk
    rw [ha] at e
    cases e
    exact core (fun _ => none) (fun _ => .inl rfl) (.inr ⟨_, vs.toArray, _, hk, rfl, rfl, rfl, by rw [List.size_toArray, lenV]; exact hl, by simpa using rv⟩)
      (fun b u z => nomatch (show (none : Option HO) = some u from z)) (fun b z => absurd rfl z) fun z => absurd rfl z
  | none =>
    have at_ : ∀ {b : Addr} {u : HO}, (if b = a then some (HO.frz { cls := .type "list", data := .seq vs.toArray } (.lst (ns.map V.int))) else none) = some u → b = a ∧ u = HO.frz { cls := .type "list", data := .seq vs.toArray } (.lst (ns.map V.int)) := by
      intro b u z
      by_cases hb : b = a
      · rw [if_pos hb] at z; cases z; exact ⟨hb, rfl⟩
      · rw [if_neg hb] at z; cases z
    refine core (fun b => if b = a then some (.frz { cls := .type "list", data := .seq vs.toArray } (.lst (ns.map V.int))) else none) (fun b => ?_) (.inl (.inr ⟨{ cls := .type "list", data := .seq vs.toArray }, if_pos rfl⟩)) (fun b u z => ?_) (fun b z => ?_) fun _ => hk
    · by_cases hb : b = a
      · exact .inr ⟨_, _, if_pos hb⟩
      · exact .inl (if_neg hb)
    · obtain ⟨rfl, rfl⟩ := at_ z
      exact ⟨ha, by rw [List.length_map]; exact hl, vs, _, rv, ha⟩
    · by_cases hb : b = a
      · exact hb
      · exact absurd (if_neg hb) z
/-- the meaning of the law's def on the script -/
theorem sp_law {K : PySem.W.Frag} {c : String → Addr} {m : List D → List O → R D} {H : Hp} {a : Addr} {ns : List Int} {A : List O} (hS : SqL K H a (ns.map V.int)) (h : m [.scr (ns.map D.int)] [] = .ok (.bl true) A) :
    spG ⟨K, c⟩ 1 m [.ref a] H (fun v _ => v = .bl true) fun _ _ _ => False := by
  have rs : ∀ l : List Int, VRs ⟨K, c⟩ H [] (l.map D.int) (l.map V.int) := by
    intro l
    induction l with
    | nil => exact .nil
    | cons x r ih => exact .cons (.int x) ih
  refine ⟨rfl, H, [], [], [.scr (ns.map D.int)], ⟨fun _ _ e => e, rfl, List.nodup_nil, fun n o a e => by simp at e, fun n o a e => by simp at e, fun n a e => by simp at e⟩, .cons (.scr hS (rs ns)) .nil, ?_⟩
  rw [h]
  intro W' ρ' H' v e R' r
  cases r
  rfl
/-! the built-ins' names -/
theorem bt_len : bootBuiltins "len" = some (.builtin "len") := by decide +kernel
theorem bt_isinstance : bootBuiltins "isinstance" = some (.builtin "isinstance") := by decide +kernel
theorem bt_sum : bootBuiltins "sum" = some (.builtin "sum") := by decide +kernel
theorem bt_min : bootBuiltins "min" = some (.builtin "min") := by decide +kernel
theorem bt_max : bootBuiltins "max" = some (.builtin "max") := by decide +kernel
theorem bt_int : bootBuiltins "int" = some (.type "int") := by decide +kernel
theorem bt_str : bootBuiltins "str" = some (.type "str") := by decide +kernel
theorem bt_list : bootBuiltins "list" = some (.type "list") := by decide +kernel
theorem bt_tuple : bootBuiltins "tuple" = some (.type "tuple") := by decide +kernel
section
variable {X : Cx} {c : String → Addr} {EX : WX} {x : Str} {pos : Pos}
theorem se_ki {i : Int} (hg : Gl X x) (hm : ∃ t, X.mg x = some (.int i t)) (hd : (x == ("__debug__" : Str)) = false := by decide) : PE X (.Name x pos) (tE ⟨X.K, c⟩ EX (mC (.int i))) := let ⟨_, h⟩ := hm; se_gint hg h ⟨_, rfl⟩ hd
def dAddI (x y : D) (A : List O) : R D := match x, y with
  | .int i, .int j => .ok (.int (i + j)) A
  | _, _ => .no
end
end Vi
end
section
set_option Elab.async false
set_option linter.all false
set_option maxRecDepth 100000
set_option maxHeartbeats 2000000
namespace Vi
open PySem PySem.Spec L2
/-! reading a meaning off, from the outside inwards -/
@[simp ↓] theorem bind_e {α β : Type} (r : R α) (f : α → List O → R β) : r.bind f = (match r with
  | .ok a A => f a A
  | .ex c fs A => .ex c fs A
  | .no => .no) := rfl
section
variable {α : Type} {σ : Env} {A : List O} {ma mb mc mo mi : M D} {mr : M (List D)} {t1 t2 : M Bool} {a b : SM} {i : Nat} {f g : D → D → List O → R D} {fz : Bool}
@[simp ↓] theorem mVar_e : mVar i σ A = (match σ[i]? with
  | some (some d) => .ok d A
  | _ => .no) := rfl
@[simp ↓] theorem mC_e {d : D} : mC d σ A = .ok d A := rfl
@[simp ↓] theorem m1_e {f : D → List O → R D} : m1 f ma σ A = (ma σ A).bind f := rfl
@[simp ↓] theorem m2_e : m2 f ma mb σ A = (ma σ A).bind fun x A => (mb σ A).bind fun y A => f x y A := rfl
@[simp ↓] theorem mArgs0_e : mArgs0 σ A = .ok [] A := rfl
@[simp ↓] theorem mArgs_e : mArgs ma mr σ A = (ma σ A).bind fun x A => (mr σ A).bind fun xs A => .ok (x :: xs) A := rfl
@[simp ↓] theorem mA_e {f : List D → List O → R D} : mA f mr σ A = (mr σ A).bind f := rfl
@[simp ↓] theorem mCall_e {m : List D → List O → R D} : mCall m [] mr σ A = (mr σ A).bind fun xs A => m xs A := by
  unfold mCall
  simp only [List.append_nil]
theorem mCall_d {m : List D → List O → R D} {dds : List D} : mCall m dds mr σ A = (mr σ A).bind fun xs A => m (xs ++ dds) A := rfl
@[simp ↓] theorem mMeth_e {c : D → List O → Bool} {f : D → List D → List O → R D} : mMeth c f ma mr σ A = (ma σ A).bind fun x A => if c x A then (mr σ A).bind fun xs A => f x xs A else .no := rfl
@[simp ↓] theorem mMeth0_e {c : D → List O → Bool} {f : D → List D → List O → R D} : mMeth0 c f ma σ A = (ma σ A).bind fun x A => if c x A then f x [] A else .no := rfl
@[simp ↓] theorem mSl_e {ml mh : M (Option Int)} : mSl fz ma ml mh σ A = (ma σ A).bind fun x A => (ml σ A).bind fun lo A => (mh σ A).bind fun hi A => dSl fz x lo hi A := rfl
@[simp ↓] theorem mNoPart_e : mNoPart σ A = .ok none A := rfl
@[simp ↓] theorem mPart_e : mPart ma σ A = (ma σ A).bind fun x A => match x with
  | .int i => .ok (some i) A
  | _ => .no := rfl
@[simp ↓] theorem mChain_e : mChain f g ma mb mc σ A = (ma σ A).bind fun x A => (mb σ A).bind fun y A => (f x y A).bind fun z A => match z with
  | .bl true => (mc σ A).bind fun w A => g y w A
  | .bl false => .ok (.bl false) A
  | _ => .no := rfl
@[simp ↓] theorem mBl_e : mBl ma σ A = (ma σ A).bind fun x A => match x with
  | .bl b => .ok b A
  | _ => .no := rfl
@[simp ↓] theorem mTru_e : mTru ma σ A = (ma σ A).bind dTru := rfl
@[simp ↓] theorem mNotT_e : mNotT t1 σ A = (t1 σ A).bind fun b A => .ok (!b) A := rfl
@[simp ↓] theorem mAndT_e : mAndT t1 t2 σ A = (t1 σ A).bind fun b A => if b then t2 σ A else .ok false A := rfl
@[simp ↓] theorem mOrT_e : mOrT t1 t2 σ A = (t1 σ A).bind fun b A => if b then .ok true A else t2 σ A := rfl
@[simp ↓] theorem mIte_e : mIte t1 ma mb σ A = (t1 σ A).bind fun b A => if b then ma σ A else mb σ A := rfl
@[simp ↓] theorem mAnd_e : mAnd ma mb σ A = (ma σ A).bind fun x A => match x with
  | .bl true => mb σ A
  | .bl false => .ok (.bl false) A
  | _ => .no := rfl
@[simp ↓] theorem mOr_e : mOr ma mb σ A = (ma σ A).bind fun x A => match x with
  | .bl true => .ok (.bl true) A
  | .bl false => mb σ A
  | _ => .no := rfl
@[simp ↓] theorem mSrc_e : mSrc ma σ A = (ma σ A).bind srcOf := rfl
@[simp ↓] theorem mSrcA_e {f : List D → List O → R Src} : mSrcA f mr σ A = (mr σ A).bind f := rfl
@[simp ↓] theorem mYes_e : mYes σ A = .ok true A := rfl
@[simp ↓] theorem mLc_e {ms : M Src} {tg : TgM} {vs : List Nat} : mLc fz ms tg t1 ma vs σ A = (ms σ A).bind fun s A => (lcD s.ok tg t1 ma (wipeD σ vs) s.items [] A).bind fun ds A => newL fz ds A := rfl
@[simp ↓] theorem withE_e {m : M α} {k : Env → α → List O → R Fl} : withE m k σ A = (match m σ A with
  | .ok x A => k σ x A
  | .ex c fs A => .ok (.xc c fs σ) A
  | .no => .no) := rfl
@[simp ↓] theorem sExpr_e : sExpr ma σ A = withE ma (fun σ _ A => .ok (.nx σ) A) σ A := rfl
@[simp ↓] theorem sRet_e : sRet ma σ A = withE ma (fun _ d A => .ok (.rt d) A) σ A := rfl
@[simp ↓] theorem sRetN_e : sRetN σ A = .ok (.rt .non) A := rfl
@[simp ↓] theorem sPass_e : sPass σ A = .ok (.nx σ) A := rfl
@[simp ↓] theorem sBreak_e : sBreak σ A = .ok (.bk σ) A := rfl
@[simp ↓] theorem sSet_e : sSet i ma σ A = withE ma (fun σ d A => .ok (.nx (σ.set i (some d))) A) σ A := rfl
@[simp ↓] theorem sIf_e : sIf t1 a b σ A = withE t1 (fun σ k A => if k then a σ A else b σ A) σ A := rfl
@[simp ↓] theorem sSeq_e : sSeq a b σ A = (match a σ A with
  | .ok (.nx σ) A => b σ A
  | r => r) := rfl
@[simp ↓] theorem sAug_e : sAug i f ma σ A = (match σ[i]? with
  | some (some x) => withE (fun σ A => (ma σ A).bind fun y A => f x y A) (fun σ d A => .ok (.nx (σ.set i (some d))) A) σ A
  | _ => .no) := rfl
@[simp ↓] theorem sRetF_e : sRetF i σ A = (match σ[i]? with
  | some (some (.ref n)) => match A[n]? with
    | some (.lst ds) => .ok (.rt (.lst ds)) (A.set n .dead)
    | _ => .no
  | _ => .no) := rfl
@[simp ↓] theorem sAsg_e {mt : TgM} : sAsg ma mt σ A = withE ma (fun σ d A => match mt d σ A with
  | .ok σ A => .ok (.nx σ) A
  | _ => .no) σ A := rfl
@[simp ↓] theorem sFor_e {ms : M Src} {tg : TgM} : sFor ms tg a σ A = withE ms (fun σ s A => forD s.ok tg a s.items σ A) σ A := rfl
@[simp ↓] theorem tgN_e {d : D} : tgN i d σ A = .ok (σ.set i (some d)) A := rfl
@[simp ↓] theorem tgT_e {n : Nat} {r : List D → Env → List O → R Env} {ds : List D} : tgT n r (.tup ds) σ A = if ds.length = n then r ds σ A else .no := rfl
@[simp ↓] theorem tgT_l {n : Nat} {r : List D → Env → List O → R Env} {ds : List D} : tgT n r (.lst ds) σ A = if ds.length = n then r ds σ A else .no := rfl
@[simp ↓] theorem tgsNil_e : tgsNil [] σ A = .ok σ A := rfl
@[simp ↓] theorem tgsCons_e {t : TgM} {r : List D → Env → List O → R Env} {d : D} {ds : List D} : tgsCons t r (d :: ds) σ A = (t d σ A).bind fun σ A => r ds σ A := rfl
@[simp ↓] theorem tgSub_e {d : D} : tgSub mo mi d σ A = (mo σ A).bind fun o A => (mi σ A).bind fun i A => match setIx o i d A with
  | some A => .ok σ A
  | none => .no := rfl
@[simp ↓] theorem runB_e {N : Nat} {args : List D} : runB N a args A = trimR A (endB (a (args.map some ++ List.replicate (N - args.length) none) A)) := rfl
theorem trimR_of {d : D} {A' : List O} (h : TrimC A d A') : trimR A (.ok d A') = .ok d (A'.take A.length) := if_pos h
@[simp] theorem trimR_no : trimR A .no = .no := rfl
@[simp] theorem trimR_ex {c : String} {fs : List (Str × D)} {A' : List O} : trimR A (.ex c fs A') = .ex c fs A' := rfl
@[simp] theorem trimR_len {d : D} {A' : List O} (h : A'.length = A.length) : trimR A (.ok d A') = .ok d A' := by
  unfold trimR
  simp only
  split
  · rw [← h, List.take_length]
  · rfl
@[simp] theorem trimR_nr {d : D} {A' : List O} (h : noR d = false) : trimR A (.ok d A') = .ok d A' := by
  unfold trimR
  simp only
  rw [if_neg]
  rintro ⟨_, h2, _⟩
  rw [h] at h2; cases h2
@[simp] theorem trimR_same {d : D} : trimR A (.ok d A) = .ok d A := trimR_len rfl
@[simp] theorem trimR_app {d : D} {B : List O} (h : noR d = true) : trimR A (.ok d (A ++ B)) = .ok d A := by
  rw [trimR_of ⟨by simp, h, fun i hi => .inl (List.getElem?_append_left hi)⟩, List.take_left]
@[simp] theorem noR_tup {ds : List D} : noR (.tup ds) = ds.all noR := by rw [noR, noRs_all]
@[simp] theorem noR_lst {ds : List D} : noR (.lst ds) = ds.all noR := by rw [noR, noRs_all]
@[simp] theorem noR_scr {ds : List D} : noR (.scr ds) = ds.all noR := by rw [noR, noRs_all]
@[simp] theorem noR_obj {c : String} {ns : List Str} {ds : List D} : noR (.obj c ns ds) = ds.all noR := by rw [noR, noRs_all]
@[simp] theorem noR_dz {ks : List Key} {ds : List D} : noR (.dz ks ds) = ds.all noR := by rw [noR, noRs_all]
@[simp] theorem noR_dk {ks : List Key} {ds : List D} : noR (.dk ks ds) = ds.all noR := by rw [noR, noRs_all]
@[simp] theorem noR_db {ks : List (List Bool)} {ds : List D} : noR (.db ks ds) = ds.all noR := by rw [noR, noRs_all]
@[simp] theorem noR_ref {n : Nat} : noR (.ref n) = false := by rw [noR]
@[simp] theorem noR_non : noR .non = true := by rw [noR]
@[simp] theorem noR_bl {b : Bool} : noR (.bl b) = true := by rw [noR]
@[simp] theorem noR_int {i : Int} : noR (.int i) = true := by rw [noR]
@[simp] theorem noR_str {s : Str} : noR (.str s) = true := by rw [noR]
@[simp] theorem noR_ty {t : Ty} : noR (.ty t) = true := by rw [noR]
@[simp] theorem noR_exc {c : String} {ns : List Str} {ds : List D} : noR (.exc c ns ds) = ds.all noR := by rw [noR, noRs_all]
@[simp] theorem noR_rng {i j : Int} : noR (.rng i j) = true := by rw [noR]
@[simp] theorem noRO_lst {ds : List D} : noRO (.lst ds) = ds.all noR := by rw [noRO, noRs_all]
@[simp] theorem noRO_dead : noRO .dead = true := rfl
@[simp] theorem endB_nx : endB (.ok (.nx σ) A) = .ok .non A := rfl
@[simp] theorem endB_rt {d : D} : endB (.ok (.rt d) A) = .ok d A := rfl
@[simp] theorem endB_xc {c : String} {fs : List (Str × D)} : endB (.ok (.xc c fs σ) A) = .ex c fs A := rfl
end
/-! values -/
section
variable {A : List O} {i j : Int} {p q : Bool} {s t : Str} {ds es : List D} {n : Nat} {x y : D} {fz neg : Bool}
@[simp] theorem lstOf_lst : lstOf (.lst ds) A = some ds := rfl
@[simp] theorem lstOf_ref : lstOf (.ref n) A = (match A[n]? with
  | some (.lst ds) => some ds
  | _ => none) := rfl
@[simp] theorem lstOf_scr : lstOf (.scr ds) A = none := rfl
@[simp] theorem lstOf_tup : lstOf (.tup ds) A = none := rfl
@[simp] theorem lstOf_str : lstOf (.str s) A = none := rfl
@[simp] theorem seqOf_lst : seqOf (.lst ds) A = some ds := rfl
@[simp] theorem seqOf_ref : seqOf (.ref n) A = lstOf (.ref n) A := rfl
@[simp] theorem seqOf_scr : seqOf (.scr ds) A = some ds := rfl
@[simp] theorem seqOf_tup : seqOf (.tup ds) A = some ds := rfl
@[simp] theorem newL_t (h : ds.length < 16777216) : newL true ds A = .ok (.lst ds) A := by
  unfold newL
  rw [sizeLine_eq, if_pos h]
  rfl
@[simp] theorem newL_f (h : ds.length < 16777216) : newL false ds A = .ok (.ref A.length) (A ++ [.lst ds]) := by
  unfold newL
  rw [sizeLine_eq, if_pos h]
  rfl
@[simp] theorem dAdd_ii : dAdd fz (.int i) (.int j) A = .ok (.int (i + j)) A := rfl
@[simp] theorem dAdd_ss (h : s.length + t.length ≤ 16777216) : dAdd fz (.str s) (.str t) A = .ok (.str (s ++ t)) A := by
  show (if s.length + t.length ≤ sizeLine then _ else _) = _
  rw [sizeLine_eq, if_pos h]
@[simp] theorem dAdd_tt (h : ds.length + es.length ≤ 16777216) : dAdd fz (.tup ds) (.tup es) A = .ok (.tup (ds ++ es)) A := by
  show (if ds.length + es.length ≤ sizeLine then _ else _) = _
  rw [sizeLine_eq, if_pos h]
@[simp] theorem dAdd_ll : dAdd fz (.lst ds) (.lst es) A = newL fz (ds ++ es) A := rfl
@[simp] theorem dAdd_lr : dAdd fz (.lst ds) (.ref n) A = (match lstOf (.ref n) A with
  | some es => newL fz (ds ++ es) A
  | none => .no) := by
  unfold dAdd
  simp only [lstOf_lst]
  cases lstOf (.ref n) A <;> rfl
@[simp] theorem dAdd_rl : dAdd fz (.ref n) (.lst es) A = (match lstOf (.ref n) A with
  | some ds => newL fz (ds ++ es) A
  | none => .no) := by
  unfold dAdd
  simp only [lstOf_lst]
  cases lstOf (.ref n) A <;> rfl
@[simp] theorem dAdd_rr {m : Nat} : dAdd fz (.ref n) (.ref m) A = (match lstOf (.ref n) A, lstOf (.ref m) A with
  | some ds, some es => newL fz (ds ++ es) A
  | _, _ => .no) := rfl
@[simp] theorem dSub_ii : dSub (.int i) (.int j) A = .ok (.int (i - j)) A := rfl
@[simp] theorem dMul_r (h1 : -18446744073709551616 < j) (h2 : j < 18446744073709551616) : dMul (.int i) (.int j) A = .ok (.int (i * j)) A := if_pos (.inr ⟨h1, h2⟩)
@[simp] theorem dMul_l (h1 : -18446744073709551616 < i) (h2 : i < 18446744073709551616) : dMul (.int i) (.int j) A = .ok (.int (i * j)) A := if_pos (.inl ⟨h1, h2⟩)
@[simp] theorem dMod_ii (h : 0 < j) : dMod (.int i) (.int j) A = .ok (.int (i % j)) A := if_pos h
theorem small_8999 {n : Nat} (h : n < 2 ^ 64) : n < 2 ^ 8999 := Nat.lt_of_lt_of_le h (Nat.pow_le_pow_right (by decide) (by decide))
@[simp] theorem dFdiv_s (h0 : 0 < j) (h1 : j < 18446744073709551616) : dFdiv (.int i) (.int j) A = .ok (.int (i / j)) A := by
  exact if_pos ⟨h0, small_8999 (by omega)⟩
@[simp] theorem dPow_ii (h0 : 0 ≤ j) (h1 : j ≤ 1000000) (h2 : i.natAbs < 18446744073709551616) : dPow (.int i) (.int j) A = .ok (.int (i ^ j.toNat)) A := if_pos ⟨h0, h1, h2⟩
@[simp] theorem dShl_ii (h0 : 0 ≤ j) (h1 : j ≤ 1000000) (h2 : i.natAbs < 18446744073709551616) : dShl (.int i) (.int j) A = .ok (.int (i * 2 ^ j.toNat)) A := if_pos ⟨h0, h1, h2⟩
@[simp] theorem dShr_ii (h0 : 0 ≤ j) : dShr (.int i) (.int j) A = .ok (.int (i / 2 ^ j.toNat)) A := if_pos h0
@[simp] theorem dBand_ii : dBand (.int i) (.int j) A = .ok (.int (Builtin.bitAnd i j)) A := rfl
@[simp] theorem dNeg_i : dNeg (.int i) A = .ok (.int (-i)) A := rfl
@[simp] theorem dNot_b : dNot (.bl p) A = .ok (.bl (!p)) A := rfl
@[simp] theorem dLt_ii : dLt (.int i) (.int j) A = .ok (.bl (decide (i < j))) A := rfl
@[simp] theorem dLe_ii : dLe (.int i) (.int j) A = .ok (.bl (decide (i ≤ j))) A := rfl
@[simp] theorem dGt_ii : dGt (.int i) (.int j) A = .ok (.bl (decide (j < i))) A := rfl
@[simp] theorem dGe_ii : dGe (.int i) (.int j) A = .ok (.bl (decide (j ≤ i))) A := rfl
@[simp] theorem dAddI_ii : dAddI (.int i) (.int j) A = .ok (.int (i + j)) A := rfl
@[simp] theorem isNon_non : isNon .non = true := rfl
@[simp] theorem isNon_bl : isNon (.bl p) = false := rfl
@[simp] theorem isNon_int : isNon (.int i) = false := rfl
@[simp] theorem isNon_str : isNon (.str s) = false := rfl
@[simp] theorem isNon_tup : isNon (.tup ds) = false := rfl
@[simp] theorem isNon_lst : isNon (.lst ds) = false := rfl
@[simp] theorem isNon_ref : isNon (.ref n) = false := rfl
@[simp] theorem dIs_n : dIs x .non A = .ok (.bl (isNon x)) A := by cases x <;> rfl
@[simp] theorem dIs_b : dIs (.bl p) (.bl q) A = .ok (.bl (decide (p = q))) A := rfl
@[simp] theorem dIsNot_n : dIsNot x .non A = .ok (.bl (!isNon x)) A := by cases x <;> rfl
@[simp] theorem dIsNot_b : dIsNot (.bl p) (.bl q) A = .ok (.bl (!decide (p = q))) A := rfl
/-! == of scalars at once -/
@[simp] theorem dEq_ss : dEq (.str s) (.str t) A = .ok (.bl (decide (s = t))) A := rfl
@[simp] theorem dEq_ii : dEq (.int i) (.int j) A = .ok (.bl (i == j)) A := rfl
@[simp] theorem dEq_bb : dEq (.bl p) (.bl q) A = .ok (.bl (p == q)) A := rfl
@[simp] theorem dNe_ss : dNe (.str s) (.str t) A = .ok (.bl (!decide (s = t))) A := rfl
@[simp] theorem dNe_ii : dNe (.int i) (.int j) A = .ok (.bl (!(i == j))) A := rfl
@[simp] theorem dNe_bb : dNe (.bl p) (.bl q) A = .ok (.bl (!(p == q))) A := rfl
@[simp] theorem dIx_t : dIx (.tup ds) (.int i) A = (match atI ds i with
  | some d => .ok d A
  | none => .no) := rfl
@[simp] theorem dIx_l : dIx (.lst ds) (.int i) A = (match atI ds i with
  | some d => .ok d A
  | none => .no) := rfl
@[simp] theorem dIx_c : dIx (.scr ds) (.int i) A = (match atI ds i with
  | some d => .ok d A
  | none => .no) := rfl
@[simp] theorem dIx_r : dIx (.ref n) (.int i) A = (match lstOf (.ref n) A with
  | some ds => match atI ds i with
    | some d => .ok d A
    | none => .no
  | none => .no) := rfl
@[simp] theorem dIx_s (h : s.length ≤ 16777216) : dIx (.str s) (.int i) A = (match atI s.cps.toList i with
    | some c => .ok (.str ⟨#[c]⟩) A
    | none => .no) := by
  show (if s.length ≤ sizeLine then _ else _) = _
  rw [sizeLine_eq, if_pos h]
  all_goals rfl
theorem atI_at {α : Type} {xs : List α} {k : Nat} {v : α} (h : xs[k]? = some v) : atI xs (k : Int) = some v := atI_nat h
theorem atI_i {α : Type} {xs : List α} {i : Int} (h0 : 0 ≤ i) (h1 : i < xs.length) : atI xs i = xs[i.toNat]? := by
  unfold atI ixN
  rw [if_pos h0, if_pos h1]
  rfl
@[simp] theorem dTru_b : dTru (.bl p) A = .ok p A := rfl
@[simp] theorem dTru_n : dTru .non A = .ok false A := rfl
@[simp] theorem dTru_i : dTru (.int i) A = .ok (i != 0) A := rfl
@[simp] theorem dTru_t : dTru (.tup ds) A = .ok (!ds.isEmpty) A := rfl
@[simp] theorem dTru_l : dTru (.lst ds) A = .ok (!ds.isEmpty) A := rfl
@[simp] theorem fTup_e (h : ds.length ≤ 16777216) : fTup ds A = .ok (.tup ds) A := by
  unfold fTup
  rw [sizeLine_eq, if_pos h]
@[simp] theorem fLen_c : fLen [.scr ds] A = .ok (.int ds.length) A := rfl
@[simp] theorem fLen_t : fLen [.tup ds] A = .ok (.int ds.length) A := rfl
@[simp] theorem fLen_l : fLen [.lst ds] A = .ok (.int ds.length) A := rfl
@[simp] theorem fLen_r : fLen [.ref n] A = (match lstOf (.ref n) A with
  | some ds => .ok (.int ds.length) A
  | none => .no) := rfl
@[simp] theorem fLen_s (h : s.length ≤ 16777216) : fLen [.str s] A = .ok (.int s.length) A := by
  show (if s.length ≤ sizeLine then _ else _) = _
  rw [sizeLine_eq, if_pos h]
@[simp] theorem fInt_i : fInt [.int i] A = .ok (.int i) A := rfl
@[simp] theorem fInt_b : fInt [.bl p] A = .ok (.int (if p then 1 else 0)) A := rfl
@[simp] theorem fMin2_e : fMin2 [.int i, .int j] A = .ok (.int (if j < i then j else i)) A := rfl
@[simp] theorem fMax2_e : fMax2 [.int i, .int j] A = .ok (.int (if j > i then j else i)) A := rfl
@[simp] theorem fTupOf_l : fTupOf [.lst ds] A = .ok (.tup ds) A := rfl
@[simp] theorem fTupOf_t : fTupOf [.tup ds] A = .ok (.tup ds) A := rfl
@[simp] theorem fTupOf_r : fTupOf [.ref n] A = (match lstOf (.ref n) A with
  | some ds => .ok (.tup ds) A
  | none => .no) := rfl
@[simp] theorem fListOf_l : fListOf fz [.lst ds] A = newL fz ds A := rfl
@[simp] theorem fListOf_t : fListOf fz [.tup ds] A = newL fz ds A := rfl
@[simp] theorem fListOf_r : fListOf fz [.ref n] A = (match lstOf (.ref n) A with
  | some ds => newL fz ds A
  | none => .no) := rfl
@[simp] theorem bools_map : ∀ bs : List Bool, bools (bs.map D.bl) = some bs
  | [] => rfl
  | b :: bs => by rw [List.map_cons, bools, bools_map bs]; rfl
@[simp] theorem ints_map : ∀ bs : List Int, intsOf (bs.map D.int) = some bs
  | [] => rfl
  | b :: bs => by rw [List.map_cons, intsOf, ints_map bs]; rfl
@[simp] theorem fAll_e {bs : List Bool} : fAll [.lst (bs.map D.bl)] A = .ok (.bl (bs.all id)) A := by
  unfold fAll
  simp only [lstOf_lst, Option.bind_some, bools_map]
@[simp] theorem fAny_e {bs : List Bool} : fAny [.lst (bs.map D.bl)] A = .ok (.bl (bs.any id)) A := by
  unfold fAny
  simp only [lstOf_lst, Option.bind_some, bools_map]
@[simp] theorem fSum_e {bs : List Int} : fSum [.lst (bs.map D.int)] A = .ok (.int bs.sum) A := by
  unfold fSum
  simp only [lstOf_lst, Option.bind_some, ints_map]
@[simp] theorem srcOf_t : srcOf (.tup ds) A = .ok (.fix ds) A := rfl
@[simp] theorem srcOf_l : srcOf (.lst ds) A = .ok (.fix ds) A := rfl
@[simp] theorem srcOf_c : srcOf (.scr ds) A = .ok (.fix ds) A := rfl
@[simp] theorem srcOf_r : srcOf (.ref n) A = (match A[n]? with
  | some (.lst ds) => .ok (.live (.ref n) ds) A
  | _ => .no) := rfl
@[simp] theorem fRange1_e (h0 : -4611686018427387904 ≤ j) (h1 : j < 4611686018427387904) : fRange1 [.int j] A = .ok (.fix (rng 0 j.toNat)) A := if_pos ⟨h0, h1⟩
@[simp] theorem fRange2_e (h0 : -4611686018427387904 ≤ i) (h1 : i < 4611686018427387904) (h2 : -4611686018427387904 ≤ j) (h3 : j < 4611686018427387904) : fRange2 [.int i, .int j] A = .ok (.fix (rng i (j - i).toNat)) A := if_pos ⟨h0, h1, h2, h3⟩
@[simp] theorem fEnum_l : fEnum [.lst ds] A = .ok (.fix (enumD 0 ds)) A := rfl
@[simp] theorem fZip_tt : fZip [.tup ds, .tup es] A = .ok (.fix (zipD ds es)) A := rfl
@[simp] theorem fZip_ll : fZip [.lst ds, .lst es] A = .ok ⟨fun A => lstOf (.lst ds) A = some ds ∧ lstOf (.lst es) A = some es, zipD ds es⟩ A := rfl
@[simp] theorem isL_r : isL (.ref n) A = (lstOf (.ref n) A).isSome := by
  unfold isL
  simp
@[simp] theorem isS_s : isS (.str s) A = true := rfl
@[simp] theorem ourL_r : ourL (.ref n) A = (match A[n]? with
  | some (.lst ds) => some (n, ds)
  | _ => none) := rfl
end
theorem set_at {A : List O} {n : Nat} {o o' : O} (h : A[n]? = some o) : (A.set n o')[n]? = some o' := by
  rw [List.getElem?_set_self (List.getElem?_eq_some_iff.mp h).1]
end Vi
end
section
set_option Elab.async false
set_option linter.all false
set_option maxRecDepth 100000
set_option maxHeartbeats 2000000
namespace Vi
open PySem PySem.Spec L2
section
variable {α : Type} {x y z w : α} {xs : List α}
@[simp] theorem atI_0 : atI (x :: xs) 0 = some x := by simp [atI, ixN]
@[simp] theorem atI_1 : atI (x :: y :: xs) 1 = some y := by
  have : (1 : Int) < (xs.length : Int) + 1 + 1 := by omega
  simp [atI, ixN, this]
@[simp] theorem atI_2 : atI (x :: y :: z :: xs) 2 = some z := by
  have : (2 : Int) < (xs.length : Int) + 1 + 1 + 1 := by omega
  simp [atI, ixN, this]
@[simp] theorem atI_3 : atI (x :: y :: z :: w :: xs) 3 = some w := by
  have : (3 : Int) < (xs.length : Int) + 1 + 1 + 1 + 1 := by omega
  simp [atI, ixN, this]
end
/-! loops with a thing that holds at each turn -/
/-- a comprehension of things that change nothing -/
theorem lcD_pure {ok : List O → Prop} {tg : TgM} {mt : M Bool} {me : M D} {σ : Env} {A : List O} (p : D → Bool) (f : D → D) (hok : ok A) :
    ∀ {ds acc : List D}, acc.length + ds.length ≤ 16777216 →
    (∀ d ∈ ds, ∃ σ1, tg d σ A = .ok σ1 A ∧ mt σ1 A = .ok (p d) A ∧ (p d = true → me σ1 A = .ok (f d) A)) →
    lcD ok tg mt me σ ds acc A = .ok (acc ++ (ds.filter p).map f) A
  | [], acc, _, _ => by rw [lcD, if_pos hok]; simp
  | d :: ds, acc, hl, hs => by
    obtain ⟨σ1, e1, e2, e3⟩ := hs d (List.mem_cons_self ..)
    have hl2 : acc.length < sizeLine := by rw [sizeLine_eq]; simp only [List.length_cons] at hl; omega
    rw [lcD, if_pos ⟨hok, hl2⟩, e1]
    simp only [e2]
    cases hp : p d with
    | true =>
      simp only [e3 hp]
      rw [lcD_pure p f hok (by simp only [List.length_append, List.length_cons, List.length_nil] at hl ⊢; omega) fun d' h' => hs d' (List.mem_cons_of_mem _ h')]
      simp [List.filter, hp]
    | false =>
      simp only
      rw [lcD_pure p f hok (by simp only [List.length_cons] at hl; omega) fun d' h' => hs d' (List.mem_cons_of_mem _ h')]
      simp [List.filter, hp]
theorem lcD_map {ok : List O → Prop} {tg : TgM} {me : M D} {σ : Env} {A : List O} (f : D → D) (hok : ok A) {ds : List D} (hl : ds.length ≤ 16777216)
    (hs : ∀ d ∈ ds, ∃ σ1, tg d σ A = .ok σ1 A ∧ me σ1 A = .ok (f d) A) :
    lcD ok tg mYes me σ ds [] A = .ok (ds.map f) A := by
  rw [lcD_pure (fun _ => true) f hok (by simpa using hl) fun d h => ?_]
  · rw [List.nil_append, List.filter_eq_self.mpr (fun _ _ => rfl)]
  · obtain ⟨σ1, e1, e2⟩ := hs d h
    exact ⟨σ1, e1, rfl, fun _ => e2⟩
/-- a comprehension of things that change the heap -/
theorem lcD_st {ok : List O → Prop} {tg : TgM} {me : M D} {σ : Env} (J : List O → Prop) (P : D → Prop) (hok : ∀ A, J A → ok A) :
    ∀ {ds acc : List D} {A : List O}, acc.length + ds.length ≤ 16777216 → J A → (∀ y ∈ acc, P y) →
    (∀ d ∈ ds, ∀ A, J A → ∃ σ1 y A', tg d σ A = .ok σ1 A ∧ me σ1 A = .ok y A' ∧ J A' ∧ P y) →
    ∃ ys A', lcD ok tg mYes me σ ds acc A = .ok ys A' ∧ J A' ∧ (∀ y ∈ ys, P y) ∧ ys.length = acc.length + ds.length
  | [], acc, A, _, hJ, hP, _ => ⟨acc, A, by rw [lcD, if_pos (hok A hJ)], hJ, hP, rfl⟩
  | d :: ds, acc, A, hl, hJ, hP, hs => by
    obtain ⟨σ1, y, A', e1, e2, hJ', hy⟩ := hs d (List.mem_cons_self ..) A hJ
    have hl2 : acc.length < sizeLine := by rw [sizeLine_eq]; simp only [List.length_cons] at hl; omega
    obtain ⟨ys, A2, e3, hJ2, hP2, hl3⟩ := lcD_st (acc := acc ++ [y]) J P hok (by simp only [List.length_append, List.length_cons, List.length_nil] at hl ⊢; omega) hJ' (fun z hz => by
      rcases List.mem_append.mp hz with h | h
      · exact hP z h
      · rw [List.mem_singleton.mp h]; exact hy) fun d' h' => hs d' (List.mem_cons_of_mem _ h')
    refine ⟨ys, A2, ?_, hJ2, hP2, by simp only [List.length_append, List.length_cons, List.length_nil] at hl3 ⊢; omega⟩
    rw [lcD, if_pos ⟨hok A hJ, hl2⟩, e1]
    simp only [mYes_e, e2]
    exact e3
@[simp] theorem rng_len {lo : Int} {n : Nat} : (rng lo n).length = n := by simp [rng]
/-- the heap grows, nothing of the old but the thing at n changes -/
def Grow (n : Nat) (A A' : List O) : Prop := A.length ≤ A'.length ∧ ∀ i, i < A.length → i ≠ n → A'[i]? = A[i]?
theorem Grow.rfl {n : Nat} {A : List O} : Grow n A A := ⟨Nat.le_refl _, fun _ _ _ => Eq.refl _⟩
theorem Grow.trans {n : Nat} {A B C : List O} (h : Grow n A B) (k : Grow n B C) : Grow n A C :=
  ⟨Nat.le_trans h.1 k.1, fun i hi hn => (k.2 i (Nat.lt_of_lt_of_le hi h.1) hn).trans (h.2 i hi hn)⟩
theorem Grow.set {n : Nat} {A : List O} {o : O} : Grow n A (A.set n o) :=
  ⟨by simp, fun i hi hn => by rw [List.getElem?_set_ne (Ne.symm hn)]⟩
theorem Grow.push {n : Nat} {A : List O} {o : O} : Grow n A (A ++ [o]) :=
  ⟨by simp, fun i hi hn => List.getElem?_append_left hi⟩
/-- of a truth for each a function -/
theorem pick {α β : Type} [Inhabited β] {Q : α → Prop} {P : α → β → Prop} (h : ∀ a, Q a → ∃ b, P a b) : ∃ f : α → β, ∀ a, Q a → P a (f a) := by
  classical
  exact ⟨fun a => if h : ∃ b, P a b then h.choose else default, fun a ha => by
    have := h a ha
    simp only [this, dif_pos]
    exact this.choose_spec⟩
@[simp] theorem shaped_n : SeqAt.shaped .none = true := rfl
@[simp] theorem flatD_s {s : Str} : flatD (.str s) = true := rfl
@[simp] theorem flatD_i {s : Int} : flatD (.int s) = true := rfl
@[simp] theorem flatD_b {s : Bool} : flatD (.bl s) = true := rfl
@[simp] theorem flatD_n : flatD .non = true := rfl
theorem dIn_e {neg : Bool} {x y : D} {ys : List D} {A : List O} (hy : ∀ s, y ≠ .str s) (h : seqOf y A = some ys) (hx : flatD x = true) (hf : ys.all flatD = true) :
    dIn neg x y A = .ok (.bl (if neg then !(ys.any fun z => eqF z x) else ys.any fun z => eqF z x)) A := by
  unfold dIn
  split
  · exact absurd rfl (hy _)
  · rw [h]
    simp only [hx, hf, Bool.and_self, if_true]
@[simp] theorem dIn_ts {s : Str} {ys : List D} {A : List O} (hf : ys.all flatD = true) : dIn false (.str s) (.tup ys) A = .ok (.bl (ys.any fun z => eqF z (.str s))) A := dIn_e (ys := ys) (fun _ => D.noConfusion) rfl rfl hf
@[simp] theorem dNin_ts {s : Str} {ys : List D} {A : List O} (hf : ys.all flatD = true) : dIn true (.str s) (.tup ys) A = .ok (.bl (!ys.any fun z => eqF z (.str s))) A := dIn_e (neg := true) (ys := ys) (fun _ => D.noConfusion) rfl rfl hf
@[simp] theorem dIn_ls {s : Str} {ys : List D} {A : List O} (hf : ys.all flatD = true) : dIn false (.str s) (.lst ys) A = .ok (.bl (ys.any fun z => eqF z (.str s))) A := dIn_e (ys := ys) (fun _ => D.noConfusion) rfl rfl hf
@[simp] theorem dNin_ls {s : Str} {ys : List D} {A : List O} (hf : ys.all flatD = true) : dIn true (.str s) (.lst ys) A = .ok (.bl (!ys.any fun z => eqF z (.str s))) A := dIn_e (neg := true) (ys := ys) (fun _ => D.noConfusion) rfl rfl hf
@[simp] theorem dIn_cs {s : Str} {ys : List D} {A : List O} (hf : ys.all flatD = true) : dIn false (.str s) (.scr ys) A = .ok (.bl (ys.any fun z => eqF z (.str s))) A := dIn_e (ys := ys) (fun _ => D.noConfusion) rfl rfl hf
@[simp] theorem dNin_cs {s : Str} {ys : List D} {A : List O} (hf : ys.all flatD = true) : dIn true (.str s) (.scr ys) A = .ok (.bl (!ys.any fun z => eqF z (.str s))) A := dIn_e (neg := true) (ys := ys) (fun _ => D.noConfusion) rfl rfl hf
@[simp] theorem dIn_ti {s : Int} {ys : List D} {A : List O} (hf : ys.all flatD = true) : dIn false (.int s) (.tup ys) A = .ok (.bl (ys.any fun z => eqF z (.int s))) A := dIn_e (ys := ys) (fun _ => D.noConfusion) rfl rfl hf
@[simp] theorem dNin_ti {s : Int} {ys : List D} {A : List O} (hf : ys.all flatD = true) : dIn true (.int s) (.tup ys) A = .ok (.bl (!ys.any fun z => eqF z (.int s))) A := dIn_e (neg := true) (ys := ys) (fun _ => D.noConfusion) rfl rfl hf
@[simp] theorem dIn_li {s : Int} {ys : List D} {A : List O} (hf : ys.all flatD = true) : dIn false (.int s) (.lst ys) A = .ok (.bl (ys.any fun z => eqF z (.int s))) A := dIn_e (ys := ys) (fun _ => D.noConfusion) rfl rfl hf
@[simp] theorem dNin_li {s : Int} {ys : List D} {A : List O} (hf : ys.all flatD = true) : dIn true (.int s) (.lst ys) A = .ok (.bl (!ys.any fun z => eqF z (.int s))) A := dIn_e (neg := true) (ys := ys) (fun _ => D.noConfusion) rfl rfl hf
@[simp] theorem dIn_ci {s : Int} {ys : List D} {A : List O} (hf : ys.all flatD = true) : dIn false (.int s) (.scr ys) A = .ok (.bl (ys.any fun z => eqF z (.int s))) A := dIn_e (ys := ys) (fun _ => D.noConfusion) rfl rfl hf
@[simp] theorem dNin_ci {s : Int} {ys : List D} {A : List O} (hf : ys.all flatD = true) : dIn true (.int s) (.scr ys) A = .ok (.bl (!ys.any fun z => eqF z (.int s))) A := dIn_e (neg := true) (ys := ys) (fun _ => D.noConfusion) rfl rfl hf
@[simp] theorem dIn_tb {s : Bool} {ys : List D} {A : List O} (hf : ys.all flatD = true) : dIn false (.bl s) (.tup ys) A = .ok (.bl (ys.any fun z => eqF z (.bl s))) A := dIn_e (ys := ys) (fun _ => D.noConfusion) rfl rfl hf
@[simp] theorem dNin_tb {s : Bool} {ys : List D} {A : List O} (hf : ys.all flatD = true) : dIn true (.bl s) (.tup ys) A = .ok (.bl (!ys.any fun z => eqF z (.bl s))) A := dIn_e (neg := true) (ys := ys) (fun _ => D.noConfusion) rfl rfl hf
@[simp] theorem dIn_lb {s : Bool} {ys : List D} {A : List O} (hf : ys.all flatD = true) : dIn false (.bl s) (.lst ys) A = .ok (.bl (ys.any fun z => eqF z (.bl s))) A := dIn_e (ys := ys) (fun _ => D.noConfusion) rfl rfl hf
@[simp] theorem dNin_lb {s : Bool} {ys : List D} {A : List O} (hf : ys.all flatD = true) : dIn true (.bl s) (.lst ys) A = .ok (.bl (!ys.any fun z => eqF z (.bl s))) A := dIn_e (neg := true) (ys := ys) (fun _ => D.noConfusion) rfl rfl hf
@[simp] theorem dIn_cb {s : Bool} {ys : List D} {A : List O} (hf : ys.all flatD = true) : dIn false (.bl s) (.scr ys) A = .ok (.bl (ys.any fun z => eqF z (.bl s))) A := dIn_e (ys := ys) (fun _ => D.noConfusion) rfl rfl hf
@[simp] theorem dNin_cb {s : Bool} {ys : List D} {A : List O} (hf : ys.all flatD = true) : dIn true (.bl s) (.scr ys) A = .ok (.bl (!ys.any fun z => eqF z (.bl s))) A := dIn_e (neg := true) (ys := ys) (fun _ => D.noConfusion) rfl rfl hf
@[simp] theorem eqF_ss {s t : Str} : eqF (.str s) (.str t) = decide (s = t) := rfl
@[simp] theorem eqF_ii {s t : Int} : eqF (.int s) (.int t) = decide (s = t) := rfl
end Vi
end
section
set_option Elab.async false
set_option linter.all false
set_option maxRecDepth 100000
set_option maxHeartbeats 2000000
namespace Vi
open PySem PySem.Spec L2
theorem _root_.L2.Room.u65 {k : Nat} {A : Around} (r : Room k A) : A.units + 65 < cLine := by have := r.un; omega
@[simp] theorem atI_4 {α : Type} {a b c d e : α} {xs : List α} : atI (a :: b :: c :: d :: e :: xs) 4 = some e := by
  have : (4 : Int) < (xs.length : Int) + 1 + 1 + 1 + 1 + 1 := by omega
  simp [atI, ixN, this]
@[simp] theorem atI_5 {α : Type} {a b c d e f : α} {xs : List α} : atI (a :: b :: c :: d :: e :: f :: xs) 5 = some f := by
  have : (5 : Int) < (xs.length : Int) + 1 + 1 + 1 + 1 + 1 + 1 := by omega
  simp [atI, ixN, this]
@[simp] theorem dMul_t {ds : List D} {y : D} {A : List O} : dMul (.tup ds) y A = .no := rfl
/-! an operator in two ways -/
def orD (f g : D → D → List O → R D) (x y : D) (A : List O) : R D := match f x y A with
  | .no => g x y A
  | r => r
@[simp ↓] theorem orD_e {f g : D → D → List O → R D} {x y : D} {A : List O} : orD f g x y A = (match f x y A with
  | .no => g x y A
  | r => r) := rfl
section
variable {g : G} {W : Hp} {ρ : List Addr} {A : List O} {H : Hp}
def rOr (r r' : R2) : R2 := fun x y H Q => r x y H Q ∨ r' x y H Q
theorem OpS.or {r r' : R2} {f f' : D → D → List O → R D} (h : OpS g r f) (h' : OpS g r' f') : OpS g (rOr r r') (orD f f') := by
  intro EX W ρ A H σ x y v u Q hR rx ry hP
  unfold orD at hP
  cases e : f x y A with
  | no =>
    rw [e] at hP
    exact .inr (h' hR rx ry hP)
  | ok d A' =>
    rw [e] at hP
    exact .inl (h hR rx ry (by rw [e]; exact hP))
  | ex c fs A' =>
    rw [e] at hP
    exact .inl (h hR rx ry (by rw [e]; exact hP))
theorem op_or {X : Cx} {op : Value → Value → Sem Value} {r r' : R2} (h : OpR X op r) (h' : OpR X op r') : OpR X op (rOr r r') := h.or h'
noncomputable def dRepT (x y : D) (A : List O) : R D := match x, y with
  | .tup ds, .int k => @ite _ (ds ≠ [] ∧ 2 ≤ k ∧ k ≤ 1000 ∧ ds.length ≤ 1000) (Classical.propDecidable _) (.ok (.tup (List.replicate k.toNat ds).flatten) A) .no
  | _, _ => .no
@[simp] theorem dRepT_e {ds : List D} {k : Int} {A : List O} (h0 : ds ≠ []) (h1 : 2 ≤ k) (h2 : k ≤ 1000) (h3 : ds.length ≤ 1000) : dRepT (.tup ds) (.int k) A = .ok (.tup (List.replicate k.toNat ds).flatten) A := if_pos ⟨h0, h1, h2, h3⟩
/-- in, of data of any depth -/
def dInD (neg : Bool) (x y : D) (A : List O) : R D := match py A 64 x, py A 64 y with
  | some d, some (.list ds) => if SeqAt.shaped d && SeqAt.shaped (.list ds) then .ok (.bl (if neg then !(ds.any fun z => PyData.eqv z d) else ds.any fun z => PyData.eqv z d)) A else .no
  | _, _ => .no
theorem os_inD : OpS g (rInD g.K) (dInD false) := by
  intro EX W ρ A H σ x y v u Q hR rx ry h
  unfold dInD at h
  split at h
  · rename_i a b e1 e2
    split at h
    · rename_i hs
      obtain ⟨s1, s2⟩ := Bool.and_eq_true_iff.mp hs
      exact ⟨a, b, py_ok hR rx e1, py_ok hR ry e2, s1, s2, Post.val hR (.bl _) h⟩
    · exact h.elim
  · exact h.elim
/-! range(a, b) as a value -/
end
end Vi
end
section
set_option Elab.async false
set_option linter.all false
set_option maxRecDepth 100000
set_option maxHeartbeats 2000000
namespace Vi
open PySem PySem.Spec L2
open PyProof.Rows (envOfC)
/-! an expression read in one of two ways -/
def orM (m m' : M D) : M D := fun σ A => match m σ A with
  | .no => m' σ A
  | r => r
@[simp ↓] theorem orM_e {m m' : M D} {σ : Env} {A : List O} : orM m m' σ A = (match m σ A with
  | .no => m' σ A
  | r => r) := rfl
/-! fields by their names -/
def fIx (ns : List Str) (f : Str) : Option Nat := ns.findIdx? fun x => decide (x = f)
/-- what an instance is: its class, its fields -/
def insOf (x : D) (A : List O) : Option (String × List Str × List D) := match x with
  | .obj c ns ds => some (c, ns, ds)
  | .ref n => match A[n]? with
    | some (.ins c ns ds) => some (c, ns, ds)
    | _ => none
  | _ => none
/-! what the text must have of a class: c its name -/
/-! o.f -/
def dFld (C : String) (f : Str) (x : D) (A : List O) : R D := match insOf x A with
  | some (c, ns, ds) => if c = C then (match (fIx ns f).bind fun i => ds[i]? with
    | some d => .ok d A
    | none => .no) else .no
  | none => .no
section
variable {X : Cx} {c : String → Addr} {EX : WX} {o value : Expr} {f : Str} {pos pos' : Pos} {mo mv : M D} {C : String} {fs : List Str}
/-! o.f = e -/
def setFld (C : String) (f : Str) (x d : D) (A : List O) : Option (List O) := match x with
  | .ref n => match A[n]? with
    | some (.ins c ns ds) => if c = C ∧ ns.length < 1000 then (match fIx ns f with
      | some i => some (A.set n (.ins c ns (ds.set i d)))
      | none => some (A.set n (.ins c (ns ++ [f]) (ds ++ [d])))) else none
    | _ => none
  | _ => none
def sFldD (C : String) (f : Str) (mo mv : M D) : SM := withE (fun σ A => (mv σ A).bind fun y A => (mo σ A).bind fun x A => match setFld C f x y A with
  | some A' => R.ok D.non A'
  | none => R.no) fun σ _ A => .ok (.nx σ) A
end
/-! freezing -/
def frz1 (d : D) (A : List O) : D × List O := match d with
  | .ref n => match A[n]? with
    | some (.lst es) => (.lst es, A.set n .dead)
    | some (.dct ks es) => (.dk ks es, A.set n .dead)
    | some (.dtb ks es) => (.db ks es, A.set n .dead)
    | _ => (d, A)
  | d => (d, A)
def frzL : List D → List O → List D × List O
  | [], A => ([], A)
  | d :: ds, A => ((frz1 d A).1 :: (frzL ds (frz1 d A).2).1, (frzL ds (frz1 d A).2).2)
/-- an instance of ours, its fields, are frozen -/
def frzO (n : Nat) (A : List O) : R D := match A[n]? with
  | some (.ins c ns ds) => match (frzL ds A).2[n]? with
    | some (.ins _ _ _) => .ok (.obj c ns (frzL ds A).1) ((frzL ds A).2.set n .dead)
    | _ => .no
  | _ => .no
/-! C(..): a new instance; it is frozen, or ours -/
noncomputable def mMake (fz : Bool) (C : String) (m : List D → List O → R D) (dds : List D) (mr : M (List D)) : M D := fun σ A => (mr σ A).bind fun xs A => trimR A ((m (.ref A.length :: (xs ++ dds)) (A ++ [.ins C [] []])).bind fun v B => match v with
  | .non => if fz then frzO A.length B else .ok (.ref A.length) B
  | _ => .no)
/-- o.m(..), a method of the class C -/
def mMethC (C : String) (name : Str) (m : List D → List O → R D) (dds : List D) (mo : M D) (mr : M (List D)) : M D := fun σ A => (mo σ A).bind fun x A => match insOf x A with
  | some (c, ns, _) => if c = C ∧ fIx ns name = none then (mr σ A).bind fun xs A => m (x :: (xs ++ dds)) A else .no
  | none => .no
end Vi
end
section
set_option Elab.async false
set_option linter.all false
set_option maxRecDepth 100000
set_option maxHeartbeats 2000000
namespace Vi
open PySem PySem.Spec L2
/-! dicts whose keys are tuples of truths -/
def leafB (b : Bool) : Leaf := .num (if b then 1 else 0)
abbrev kindB (P : Program) (w : World) : HeapKind P w (List Leaf) := tupleKind (leafKind P w)
theorem leafB_inj {a b : Bool} (h : leafB a = leafB b) : a = b := by
  cases a <;> cases b <;> first | rfl | exact absurd h (by decide)
theorem leafBs_inj : ∀ {a b : List Bool}, a.map leafB = b.map leafB → a = b
  | [], [], _ => rfl
  | [], _ :: _, h => by simp at h
  | _ :: _, [], h => by simp at h
  | x :: xs, y :: ys, h => by
    rw [List.map_cons, List.map_cons] at h
    injection h with h1 h2
    rw [leafB_inj h1, leafBs_inj h2]
theorem hashB_eq {P : Program} {w : World} (bs : List Bool) : (kindB P w).hash (bs.map leafB) = hashB bs := by
  show reduceHash (Builtin.Tuple.tupleHashOf ((bs.map leafB).map (leafKind P w).hash)) = _
  rw [List.map_map]
  rfl
theorem itemsB {P : Program} {w : World} : ∀ {bs : List Bool} {us : List Value}, Vals (bs.map V.bl) us → ItemsAre (leafKind P w) (bs.map leafB) us
  | [], _, r => by cases r; exact .nil
  | b :: bs, _, r => by
    rw [List.map_cons] at r
    cases r with
    | cons h t =>
      obtain rfl := (show _ = Value.bool b from h)
      exact .cons (by cases b <;> rfl) (itemsB t)
def kIx {κ : Type} [DecidableEq κ] (ks : List κ) (k : κ) : Option Nat := ks.findIdx? fun x => decide (x = k)
theorem kIx_nil {κ : Type} [DecidableEq κ] {k : κ} : kIx ([] : List κ) k = none := rfl
theorem kIx_cons {κ : Type} [DecidableEq κ] {x k : κ} {ks : List κ} : kIx (x :: ks) k = if x = k then some 0 else (kIx ks k).map (· + 1) := by
  unfold kIx
  rw [List.findIdx?_cons]
  by_cases e : x = k
  · rw [decide_eq_true e, if_pos e]; rfl
  · rw [decide_eq_false e, if_neg e]; rfl
theorem kIx_none {κ : Type} [DecidableEq κ] {k : κ} : ∀ {ks : List κ}, kIx ks k = none ↔ k ∉ ks
  | [] => by simp [kIx_nil]
  | x :: ks => by
    rw [kIx_cons]
    by_cases e : x = k
    · simp [e]
    · rw [if_neg e]
      have := kIx_none (k := k) (ks := ks)
      simp [this, Ne.symm e]
theorem kIx_some {κ : Type} [DecidableEq κ] {k : κ} : ∀ {ks : List κ} {i : Nat}, kIx ks k = some i → ks[i]? = some k
  | [], _, h => by simp [kIx_nil] at h
  | x :: ks, i, h => by
    rw [kIx_cons] at h
    by_cases e : x = k
    · rw [if_pos e] at h; cases h; simp [e]
    · rw [if_neg e] at h
      obtain ⟨j, hj, rfl⟩ := Option.map_eq_some_iff.mp h
      simpa using kIx_some hj
theorem kIx_lt {κ : Type} [DecidableEq κ] {k : κ} {ks : List κ} {i : Nat} (h : kIx ks k = some i) : i < ks.length := (List.getElem?_eq_some_iff.mp (kIx_some h)).1
/-- the table behind -/
def xsB : List (List Bool) → List Addr → List Value → List (List Leaf × Addr × Value)
  | k :: ks, p :: ps, u :: us => (k.map leafB, p, u) :: xsB ks ps us
  | _, _, _ => []
theorem xsB_keys : ∀ {ks : List (List Bool)} {ps : List Addr} {us : List Value}, ks.length = ps.length → ks.length = us.length → (xsB ks ps us).map (·.1) = ks.map fun k => k.map leafB
  | [], [], [], _, _ => rfl
  | k :: ks, p :: ps, u :: us, h1, h2 => by
    rw [xsB, List.map_cons, xsB_keys (by simpa using h1) (by simpa using h2), List.map_cons]
theorem xsB_ent {P : Program} {w : World} : ∀ {ks : List (List Bool)} {ps : List Addr} {us : List Value}, ks.length = ps.length → ks.length = us.length →
    (xsB ks ps us).map (entryOfKey (kindB P w)) = List.zipWith entB (ks.zip ps) us
  | [], [], [], _, _ => rfl
  | k :: ks, p :: ps, u :: us, h1, h2 => by
    rw [xsB, List.map_cons, xsB_ent (by simpa using h1) (by simpa using h2), List.zip_cons_cons, List.zipWith_cons_cons]
    congr 1
    show DictEntry.mk ((kindB P w).hash (k.map leafB)) (.ref p) u = entB (k, p) u
    rw [hashB_eq]; rfl
theorem xsB_at {k : List Bool} : ∀ {ks : List (List Bool)} {ps : List Addr} {us : List Value}, ks.length = ps.length → ks.length = us.length →
    atKey (xsB ks ps us) (k.map leafB) = (kIx ks k).bind fun i => ps[i]?.bind fun p => us[i]?.map fun u => (p, u)
  | [], [], [], _, _ => rfl
  | x :: ks, p :: ps, u :: us, h1, h2 => by
    have ih := xsB_at (k := k) (ks := ks) (ps := ps) (us := us) (by simpa using h1) (by simpa using h2)
    rw [kIx_cons]
    by_cases e : x = k
    · subst e; simp [xsB, atKey]
    · rw [if_neg e]
      have e2 : ¬ x.map leafB = k.map leafB := fun z => e (leafBs_inj z)
      have : atKey (xsB (x :: ks) (p :: ps) (u :: us)) (k.map leafB) = atKey (xsB ks ps us) (k.map leafB) := by simp [xsB, atKey, List.find?_cons, e2]
      rw [this, ih]
      cases kIx ks k <;> simp
theorem KsR.get {K : PySem.W.Frag} {H : Hp} : ∀ {ks : List (List Bool)} {ps : List Addr} {i : Nat} {k : List Bool} {p : Addr}, KsR K H ks ps → ks[i]? = some k → ps[i]? = some p → SqT K H p (k.map V.bl)
  | _, _, _, _, _, .nil, h, _ => by simp at h
  | _, _, 0, _, _, .cons h _, h1, h2 => by simp at h1 h2; subst h1 h2; exact h
  | _, _, i + 1, _, _, .cons _ t, h1, h2 => KsR.get (i := i) t (by simpa using h1) (by simpa using h2)
section
variable {X : Cx} {pins : List (Addr × Obj)} {σ : L2.St} {H : Hp} {s : Shared} {a b : Addr} {ks : List (List Bool)} {ps : List Addr} {vs : List V} {k : List Bool} {A : Around} {E : Value → Shared → Prop}
theorem keyB (I : Inv X pins σ H s) (h : SqT X.K H b (k.map V.bl)) : (kindB X.prog X.w).is s.heap (k.map leafB) b := by
  obtain ⟨its, r, ⟨o, ho, hc, n, hd⟩, _⟩ := I.tuple h
  exact ⟨o, its.toArray, n, ho, hc, hd, by simpa using itemsB r⟩
theorem db_of (I : Inv X pins σ H s) (e : H a = some (DbO a (ks.zip ps) vs)) (hk : KsR X.K H ks ps) :
    ks.length ≤ sizeLine ∧ (a == sysModules) = false ∧ ks.Nodup ∧ ∃ us, Vals vs us ∧ us.length = ks.length ∧ s.heap.DictOfH (kindB X.prog X.w) a (xsB ks ps us) := by
  have hl := hk.length
  obtain ⟨⟨z, hd, nd, us, o, es, ep, r, lu, h1, h2, h3, h4⟩, _, _⟩ := (show ObjOk X.prog X.w H s.heap a (DbO a (ks.zip ps) vs) from I.hok a _ e)
  have e1 : (ks.zip ps).length = ks.length := by rw [List.length_zip]; omega
  have e2 : (ks.zip ps).map (·.1) = ks := List.map_fst_zip (by omega)
  rw [e1] at z lu
  rw [e2] at nd
  refine ⟨z, hd, nd, us, r, lu, o, es, ep, h1, h2, h3, by rw [h4, xsB_ent hl lu.symm], fun x hx => ?_, ?_⟩
  · have all : ∀ {ks : List (List Bool)} {ps : List Addr} {us : List Value}, KsR X.K H ks ps → ∀ x ∈ xsB ks ps us, (kindB X.prog X.w).is s.heap x.1 x.2.1 := by
      intro ks ps us q
      induction q generalizing us with
      | nil => intro x hx; cases us <;> simp [xsB] at hx
      | cons h t ih =>
        intro x hx
        cases us with
        | nil => simp [xsB] at hx
        | cons u us =>
          rw [xsB] at hx
          rcases List.mem_cons.mp hx with rfl | hx
          · exact keyB I h
          · exact ih x hx
    exact all hk x hx
  · rw [xsB_keys hl lu.symm]
    have inj : ∀ {l : List (List Bool)}, l.Nodup → (l.map fun k => k.map leafB).Nodup := by
      intro l hl
      induction l with
      | nil => exact List.nodup_nil
      | cons x l ih =>
        rw [List.nodup_cons] at hl
        rw [List.map_cons, List.nodup_cons]
        refine ⟨fun hm => ?_, ih hl.2⟩
        obtain ⟨y, hy, ey⟩ := List.mem_map.mp hm
        rw [leafBs_inj ey] at hy
        exact hl.1 hy
    exact inj nd
theorem db_get {Q : Value → Shared → Prop} {i : Nat} {v : V} (hu : A.units + 1 < cLine) (I : Inv X pins σ H s) (e : H a = some (DbO a (ks.zip ps) vs)) (hk : KsR X.K H ks ps) (hb : SqT X.K H b (k.map V.bl)) (hi : kIx ks k = some i) (hv : vs[i]? = some v)
    (h : ∀ u s', Inv X pins σ H s' → RelV v u → Q u s') : wpAny (model X.prog X.w) A (getItem (.ref a) (.ref b)) Q E s := by
  obtain ⟨z, hd, nd, us, r, lu, dd⟩ := db_of I e hk
  obtain ⟨u, hu', ru⟩ := r.get hv
  have hl := hk.length
  have hi' := kIx_lt hi
  refine wpAny_getItem_heap (p := (ps[i]'(by omega), u)) (tupleKind_room_in1 hu) (keyB I hb) dd ?_ (h u _ (I.tok _) ru)
  rw [xsB_at hl lu.symm, hi, Option.bind_some, List.getElem?_eq_getElem (show i < ps.length by omega), hu']
  rfl
end
end Vi
end
section
set_option Elab.async false
set_option linter.all false
set_option maxRecDepth 100000
set_option maxHeartbeats 2000000
namespace Vi
open PySem PySem.Spec L2
open PyProof.Rows (subscriptTail)
theorem valV_zip {κ : Type} [DecidableEq κ] {k : κ} : ∀ {ks : List κ} {vs : List V}, ks.length = vs.length → valV (ks.zip vs) k = (kIx ks k).bind fun i => vs[i]?
  | [], [], _ => rfl
  | x :: ks, v :: vs, h => by
    rw [List.zip_cons_cons, kIx_cons]
    by_cases e : x = k
    · rw [valV_pos (p := (x, v)) e, if_pos e]; rfl
    · rw [valV_neg (p := (x, v)) e, if_neg e, valV_zip (by simpa using h)]
      cases kIx ks k <;> simp
/-! keys -/
def keyK (x : D) : Option Key := match x with
  | .int i => some (.inl i)
  | .str s => some (.inr s)
  | _ => none
def rowOf (x : D) : Option (List Bool) := match x with
  | .tup ds => bools ds
  | _ => none
section
variable {g : G} {W : Hp} {ρ : List Addr} {A : List O} {H : Hp}
theorem keyK_ok {x : D} {v : V} {k : Key} (r : VR g W ρ x v) (h : keyK x = some k) : v = kV k := by
  cases r with
  | int i => cases h; rfl
  | str s => cases h; rfl
  | _ => cases h
theorem rowOf_ok {x : D} {v : V} {k : List Bool} (hR : Rl g W ρ A H) (r : VR g W ρ x v) (h : rowOf x = some k) : ∃ b, v = .ref b ∧ SqT g.K W b (k.map V.bl) := by
  cases r with
  | tup h1 r1 =>
    have := Rl.lists r1 h
    subst this
    exact ⟨_, rfl, h1⟩
  | _ => cases h
end
/-! k in d -/
def dInT (neg : Bool) (x y : D) (A : List O) : R D := match y with
  | .dz ks _ => match keyK x with
    | some k => .ok (.bl (if neg then !(kIx ks k).isSome else (kIx ks k).isSome)) A
    | none => .no
  | .dk ks _ => match keyK x with
    | some k => .ok (.bl (if neg then !(kIx ks k).isSome else (kIx ks k).isSome)) A
    | none => .no
  | .db ks _ => match rowOf x with
    | some k => .ok (.bl (if neg then !(kIx ks k).isSome else (kIx ks k).isSome)) A
    | none => .no
  | .ref n => match A[n]? with
    | some (.dct ks ds) => match keyK x, rowOf x, ks with
      | some k, _, _ => .ok (.bl (if neg then !(kIx ks k).isSome else (kIx ks k).isSome)) A
      | none, some _, [] => .ok (.bl neg) (A.set n (.dtb [] []))
      | _, _, _ => .no
    | some (.dtb ks _) => match rowOf x with
      | some k => .ok (.bl (if neg then !(kIx ks k).isSome else (kIx ks k).isSome)) A
      | none => .no
    | _ => .no
  | _ => .no
section
variable {g : G} {W : Hp} {ρ : List Addr} {A : List O} {H : Hp}
theorem dget_zipR {a : Addr} {ks : List Key} {vs : List V} {k : Key} (hl : ks.length = vs.length) (e : Rd H a (.dK (ks.zip vs))) : DGet H a (kV k) ((kIx ks k).bind fun i => vs[i]?) := by
  rw [← valV_zip hl]; exact .inl ⟨_, k, e, rfl, rfl⟩
end
/-! d[k] -/
def dGetT (x y : D) (A : List O) : R D := match x with
  | .dz ks ds => match keyK y with
    | some k => match (kIx ks k).bind fun i => ds[i]? with
      | some d => .ok d A
      | none => .no
    | none => .no
  | .dk ks ds => match keyK y with
    | some k => match (kIx ks k).bind fun i => ds[i]? with
      | some d => .ok d A
      | none => .no
    | none => .no
  | .db ks ds => match rowOf y with
    | some k => match (kIx ks k).bind fun i => ds[i]? with
      | some d => .ok d A
      | none => .no
    | none => .no
  | .ref n => match A[n]? with
    | some (.dct ks ds) => match keyK y with
      | some k => match (kIx ks k).bind fun i => ds[i]? with
        | some d => .ok d A
        | none => .no
      | none => .no
    | some (.dtb ks ds) => match rowOf y with
      | some k => match (kIx ks k).bind fun i => ds[i]? with
        | some d => .ok d A
        | none => .no
      | none => .no
    | _ => .no
  | _ => .no
def rIxT2 (K : PySem.W.Frag) : R2 := fun x y H Q =>
  (∃ a v, x = .ref a ∧ DGet H a y (some v) ∧ Q v H) ∨ ∃ (a b : Addr) (ks : List (List Bool)) (ps : List Addr) (vs : List V) (k : List Bool) (i : Nat) (v : V), x = .ref a ∧ y = .ref b ∧ H a = some (DbO a (ks.zip ps) vs) ∧ KsR K H ks ps ∧ SqT K H b (k.map V.bl) ∧ kIx ks k = some i ∧ vs[i]? = some v ∧ Q v H
theorem tailD {X : Cx} {value slice : Expr} {o i : Value} {s : Shared} {A : Around} {E : Value → Shared → Prop} {Q : Value → Shared → Prop} (hT : s.TypeIs o "dict") (hs : subscripted slice false o i = operate [o, i] (getItem o i)) (h : wpAny (model X.prog X.w) A (getItem o i) Q E s) :
    wpAny (model X.prog X.w) A (subscriptTail value slice o i) Q E s := by
  unfold subscriptTail
  refine wpAny_bind ?_
  rw [getitemInPython_of_ne hT.not_modules]
  refine wpAny_bind (wpAny_specialOf hT PySem.F.slot_dict_getitem.lookup ?_)
  have fin : wpAny (model X.prog X.w) A (subscripted slice false o i) (fun r s₃ => wpAny (model X.prog X.w) A (letTemporaryGo value o r >>= fun _ => pure r) Q E s₃) E s := by
    rw [hs]
    exact wpAny_operating (wpAny_mono h (fun r s₃ h₃ => wpAny_bind (wpAny_letTemporaryGo (wpAny_pure h₃))) fun _ _ x => x)
  first
    | exact wpAny_pure (wpAny_bind fin)
    | exact wpAny_bind (wpAny_pure (wpAny_bind fin))
    | exact wpAny_bind fin
theorem ix_T {X : Cx} (hu : X.A.units + 1 < cLine) : IxR X (rIxT2 X.K) := by
  intro value slice pins s σ H x y v u Q I rx ry h hs
  rcases h with ⟨a, z, rfl, g, q⟩ | ⟨a, b, ks, ps, vs, k, i, z, rfl, rfl, e, hk, hb, hi, hv, q⟩
  · obtain rfl : v = Value.ref a := rx
    exact tailD (X := X) (dict_typeIs I g) hs (d_getItem hu I g ry fun w' s' I' r' => ⟨z, H, I', r', q⟩)
  · obtain rfl : v = Value.ref a := rx
    obtain rfl : u = Value.ref b := ry
    obtain ⟨_, _, _, us, r, lu, dd⟩ := db_of I e hk
    exact tailD (X := X) dd.typeIs hs (db_get hu I e hk hb hi hv fun w' s' I' r' => ⟨z, H, I', r', q⟩)
section
variable {g : G} {W : Hp} {ρ : List Addr} {A : List O} {H : Hp}
theorem os_getT : OpS g (rIxT2 g.K) dGetT := by
  intro EX W ρ A H σ x y v u Q hR rx ry h
  have keys : ∀ {a : Addr} {ks : List Key} {ds : List D} {vs : List V} {k : Key}, v = .ref a → Rd H a (.dK (ks.zip vs)) → ks.length = ds.length → VRs g W ρ ds vs → keyK y = some k → Post g (VR g) EX W ρ H σ (match (kIx ks k).bind fun i => ds[i]? with
        | some d => .ok d A
        | none => .no) Q → rIxT2 g.K v u H Q := fun {a ks ds vs k} ea e l r2 ek hP => by
    subst ea
    have ev := keyK_ok ry ek
    subst ev
    split at hP
    · rename_i d ed
      obtain ⟨i, hi, hd⟩ := Option.bind_eq_some_iff.mp ed
      obtain ⟨w, hw, rw'⟩ := r2.get hd
      have g1 := dget_zipR (k := k) (l.trans r2.length) e
      rw [hi, Option.bind_some, hw] at g1
      exact .inl ⟨a, w, rfl, g1, Post.val hR rw' hP⟩
    · exact hP.elim
  have rows : ∀ {a : Addr} {ks : List (List Bool)} {ds : List D} {ps : List Addr} {vs : List V} {k : List Bool}, v = .ref a → H a = some (DbO a (ks.zip ps) vs) → KsR g.K W ks ps → VRs g W ρ ds vs → rowOf y = some k → Post g (VR g) EX W ρ H σ (match (kIx ks k).bind fun i => ds[i]? with
        | some d => .ok d A
        | none => .no) Q → rIxT2 g.K v u H Q := fun {a ks ds ps vs k} ea e hk r2 ek hP => by
    subst ea
    obtain ⟨b, rfl, hb⟩ := rowOf_ok hR ry ek
    split at hP
    · rename_i d ed
      obtain ⟨i, hi, hd⟩ := Option.bind_eq_some_iff.mp ed
      obtain ⟨w, hw, rw'⟩ := r2.get hd
      exact .inr ⟨a, b, ks, ps, vs, k, i, w, rfl, rfl, e, hk.mono hR.ext, sqT_up hR hb, hi, hw, Post.val hR rw' hP⟩
    · exact hP.elim
  cases rx with
  | dk h1 l n r =>
    unfold dGetT at h
    simp only at h
    split at h
    · rename_i k ek
      exact keys rfl (.inl (hR.ext _ _ h1)) l r ek h
    · exact h.elim
  | dz h1 l n r =>
    unfold dGetT at h
    simp only at h
    split at h
    · rename_i k ek
      exact keys rfl (.inr ⟨_, hR.ext _ _ h1⟩) l r ek h
    · exact h.elim
  | db h1 l k r =>
    unfold dGetT at h
    simp only at h
    split at h
    · rename_i k' ek
      exact rows rfl (hR.ext _ _ h1) k r ek h
    · exact h.elim
  | @ref n a h1 =>
    unfold dGetT at h
    simp only at h
    split at h
    · rename_i ks ds e
      obtain ⟨vs, e2, l2, n2, r2⟩ := hR.obj n _ a e h1
      split at h
      · rename_i k ek
        exact keys rfl (.inl e2) l2 r2 ek h
      · exact h.elim
    · rename_i ks ds e
      obtain ⟨ps, vs, e2, l2, k2, r2⟩ := hR.obj n _ a e h1
      split at h
      · rename_i k ek
        exact rows rfl e2 k2 r2 ek h
      · exact h.elim
    · exact h.elim
  | _ => exact h.elim
end
section
variable {X : Cx} {c : String → Addr} {EX : WX} {e b : Expr} {ma mb : M D} {pos : Pos}
theorem se_getT (hu : X.A.units + 1 < cLine) (ha : PE X e (tE ⟨X.K, c⟩ EX ma)) (hb : PE X b (tE ⟨X.K, c⟩ EX mb)) (hs : PlainIx b := by exact fun _ _ => rfl) : PE X (.Subscript e b pos) (tE ⟨X.K, c⟩ EX (m2 dGetT ma mb)) :=
  PE.imp (pe_ix (ix_T hu) ha hb hs) fun σ H Q h =>
    (tM.bind2 (rel := VR ⟨X.K, c⟩) (rel2 := VR ⟨X.K, c⟩) (m := ma) (m2 := mb) (f := dGetT) (fun e r => VR.mono e r) h).weak fun v H1 q => q.weak fun u H2 ⟨W, ρ, A, x, y, hR, rx, ry, hP⟩ => os_getT hR rx ry hP
/-! {} -/
def mDict0 : M D := fun _ A => .ok (.ref A.length) (A ++ [.dct [] []])
end
/-! d[k] = v -/
def setIxT (o i d : D) (A : List O) : Option (List O) := match o with
  | .ref n => match A[n]? with
    | some (.dct ks ds) => if ks.length < sizeLine then (match keyK i, rowOf i, ks with
      | some k, _, _ => (match kIx ks k with
        | some j => some (A.set n (.dct ks (ds.set j d)))
        | none => some (A.set n (.dct (ks ++ [k]) (ds ++ [d]))))
      | none, some k, [] => some (A.set n (.dtb [k] [d]))
      | _, _, _ => none) else none
    | some (.dtb ks ds) => if ks.length < sizeLine then (match rowOf i with
      | some k => (match kIx ks k with
        | some j => some (A.set n (.dtb ks (ds.set j d)))
        | none => some (A.set n (.dtb (ks ++ [k]) (ds ++ [d]))))
      | none => none) else none
    | _ => none
  | _ => none
def tgSubT (mo mi : M D) : TgM := fun d σ A => (mo σ A).bind fun o A => (mi σ A).bind fun i A => match setIxT o i d A with
  | some A => .ok σ A
  | none => .no
@[simp ↓] theorem tgSubT_e {mo mi : M D} {d : D} {σ : Env} {A : List O} : tgSubT mo mi d σ A = (mo σ A).bind fun o A => (mi σ A).bind fun i A => match setIxT o i d A with
  | some A => .ok σ A
  | none => .no := rfl
/-! list(d), len(d) -/
end Vi
end
section
set_option Elab.async false
set_option linter.all false
set_option maxRecDepth 100000
set_option maxHeartbeats 2000000
/-! the order of rows -/
namespace Vi
def lexR : List Bool → List Bool → Bool
  | [], [] => false
  | [], _ :: _ => true
  | _ :: _, [] => false
  | a :: x, b :: y => if a = b then lexR x y else (!a && b)
def insR (x : List Bool) : List (List Bool) → List (List Bool)
  | [] => [x]
  | y :: l => if lexR x y then x :: y :: l else y :: insR x l
def sortR : List (List Bool) → List (List Bool)
  | [] => []
  | x :: l => insR x (sortR l)
theorem insR_perm (x : List Bool) : ∀ l, (insR x l).Perm (x :: l)
  | [] => .refl _
  | y :: l => by
    rw [insR]
    split
    · exact .refl _
    · exact ((insR_perm x l).cons y).trans (.swap x y l)
theorem sortR_perm : ∀ l, (sortR l).Perm l
  | [] => .refl _
  | x :: l => (insR_perm x _).trans ((sortR_perm l).cons x)
end Vi
namespace VSort
open PySem PyProof.Rows Srt SrtO
section
variable {prog : Program} {w : World} {A : Around} {E : Value → Shared → Prop} {s : Shared}
def IsRow (h : Heap) (v : Value) (k : List Bool) : Prop := ∃ a o n, v = .ref a ∧ h.get? a = some o ∧ o.cls = .type "tuple" ∧ o.data = .seq (k.map Value.bool).toArray n
theorem IsRow.keeps {h h' : Heap} {v : Value} {k : List Bool} (p : IsRow h v k) (kp : ∀ b o, h.get? b = some o → o.cls = .type "tuple" → h'.get? b = some o) : IsRow h' v k := by
  obtain ⟨a, o, n, e, ho, hc, hd⟩ := p
  exact ⟨a, o, n, e, kp a o ho hc, hc, hd⟩
theorem bools_inj : ∀ {k j : List Bool}, k.map Value.bool = j.map Value.bool → k = j
  | [], [], _ => rfl
  | [], _ :: _, h => by simp at h
  | _ :: _, [], h => by simp at h
  | a :: k, b :: j, h => by
    rw [List.map_cons, List.map_cons] at h
    injection h with h1 h2
    injection h1 with h1
    rw [h1, bools_inj h2]
theorem IsRow.inj {h : Heap} {v : Value} {k j : List Bool} (p : IsRow h v k) (q : IsRow h v j) : k = j := by
  obtain ⟨a, o, n, e, ho, hc, hd⟩ := p
  obtain ⟨a', o', n', e', ho', hc', hd'⟩ := q
  rw [e] at e'; cases e'
  rw [ho] at ho'; cases ho'
  rw [hd] at hd'
  injection hd' with h1 _
  exact bools_inj (by simpa using h1)
end
end VSort
namespace Vi
open PySem PySem.Spec L2
section
variable {X : Cx}
theorem KsR.mem {K : PySem.W.Frag} {H : Hp} : ∀ {ks : List (List Bool)} {ps : List Addr} {p : Addr}, KsR K H ks ps → p ∈ ps → ∃ k ∈ ks, SqT K H p (k.map V.bl)
  | _, _, _, .nil, h => by simp at h
  | _, _, _, .cons h t, hm => by
    rcases List.mem_cons.mp hm with rfl | hm
    · exact ⟨_, List.mem_cons_self .., h⟩
    · obtain ⟨k, h1, h2⟩ := KsR.mem t hm
      exact ⟨k, List.mem_cons_of_mem _ h1, h2⟩
end
/-! at the data -/
def rowsOfD : List D → Option (List (List Bool))
  | [] => some []
  | d :: ds => (rowOf d).bind fun k => (rowsOfD ds).map fun ks => k :: ks
def rowD' (k : List Bool) : D := .tup (k.map D.bl)
def insI (x : Int) : List Int → List Int
  | [] => [x]
  | y :: l => if x < y then x :: y :: l else y :: insI x l
def sortI : List Int → List Int
  | [] => []
  | x :: l => insI x (sortI l)
/-- sorted of rows, of ints -/
def fSorted (fz : Bool) (xs : List D) (A : List O) : R D := match xs with
  | [x] => match lstOf x A with
    | some ds => match intsOf ds with
      | some is => newL fz ((sortI is).map D.int) A
      | none => match rowsOfD ds with
        | some rows => if rows.all (fun r => !r.isEmpty) then newL fz ((sortR rows).map rowD') A else .no
        | none => .no
    | none => .no
  | _ => .no
end Vi
end
section
set_option Elab.async false
set_option linter.all false
set_option maxRecDepth 100000
set_option maxHeartbeats 2000000
namespace Vi
open PySem PySem.Spec L2
end Vi
end
section
set_option Elab.async false
set_option linter.all false
set_option maxRecDepth 100000
set_option maxHeartbeats 2000000
namespace Vi
open PySem PySem.Spec L2
/-! list(range(n)) -/
end Vi
end
section
set_option Elab.async false
set_option linter.all false
set_option maxRecDepth 100000
set_option maxHeartbeats 2000000
namespace Vi
open PySem PySem.Spec L2
/-! x == y by an own __eq__ of the class of both -/
end Vi
end
section
set_option Elab.async false
set_option linter.all false
set_option maxRecDepth 100000
set_option maxHeartbeats 2000000
namespace Vi
open PySem PySem.Spec L2
open PyProof.Rows (AllBare)
/-! try: .. except C as n: ..; what was caught is a thing of ours from then on -/
section
variable {X : Cx} {pins : List (Addr × Obj)} {σ : St} {H : Hp} {sI s s' : Shared} {B : Heap} {a : Addr} {o : HO}
theorem landT (I : Inv X pins σ H sI) (hB : ∀ b u, sI.heap.get? b = some u → b ∉ frs X.stack → B.get? b = some u) (sB : B.StaysIn s'.heap) (hup : sI.heap.UpToSlots s'.heap) (hos : s'.os = sI.os) (hag : AllBare s'.gens)
    (na : H a = none) (nB : B.get? a = none) (nS : a ∉ frs X.stack) (new : ObjOk X.prog X.w (upd H a o) s'.heap a o) : Inv X pins σ (upd H a o) s' := by
  have fr0 : ∀ b ∈ frs X.stack, ∀ u, sI.heap.get? b = some u → ∃ sl, s'.heap.get? b = some { u with slots := sl } := fun b hb u e => by
    obtain ⟨_, u', e', hd⟩ := I.stack.mem hb
    rw [e] at e'
    cases e'
    exact hup b u e hd
  have ne : ∀ b u, sI.heap.get? b = some u → b ≠ a := fun b u e z => by
    subst z
    have := hB b u e nS
    rw [nB] at this
    cases this
  have neH : ∀ {b : Addr} {u : HO}, H b = some u → b ≠ a := fun {b u} e z => by rw [z, na] at e; cases e
  have q : Un (frs X.stack) [] H (upd H a o) sI.heap s'.heap := by
    refine ⟨fun b u e _ hb _ => sB b u (hB b u e hb), fun b u e _ hb _ => fr0 b hb u e, fun b u e n _ => ?_, fun b u e _ => ?_, fun b xs e => ?_, fun b u xs e => ?_, fun b ps e => ⟨#[], ?_⟩⟩
    · rw [upd_ne (ne b u e)]; exact n
    · by_cases hb : b ∈ frs X.stack
      · obtain ⟨sl, z⟩ := fr0 b hb u e
        exact ⟨_, z⟩
      · exact ⟨u, sB b u (hB b u e hb)⟩
    · rw [upd_ne (neH e)]; exact e
    · rw [upd_ne (neH e)]; exact e
    · rw [upd_ne (neH e), e]; simp
  have hok : HOk X.prog X.w (upd H a o) s'.heap := fun b u e => by
    by_cases hb : b = a
    · subst hb
      rw [upd_same] at e
      cases e
      exact new
    · rw [upd_ne hb] at e
      exact ((I.inGround hB).kept sB b u e).stay (fun c v _ z => z) (fun c z => by rw [upd_ne (neH z)]; exact z) fun c xs z => by rw [upd_ne (neH z)]; exact z
  have J := I.call (g' := s'.gens) (t' := s'.toks) (d' := s'.drawn) q hok hag (fun _ z => nomatch z)
  obtain ⟨b1, b2, b3, b4, b5⟩ := s'
  have e5 : b5 = sI.os := hos
  subst e5
  exact J
theorem intoSuite (I : Inv X pins σ H s) (a : Addr) : Inv (X.suite a (X.pn ++ pins)) [] σ H s :=
  ⟨I.ok.suite a _, I.os, I.bare, I.base, I.loc, I.cell, I.free, I.freeC, fun p hp => I.pin p (by simpa using hp), I.hok, I.len⟩
theorem outSuite {pn' : List (Addr × Obj)} (I : Inv (X.suite a (X.pn ++ pins)) pn' σ H s) (ok : X.Ok) : Inv X pins σ H s :=
  ⟨ok, I.os, I.bare, I.base, I.loc, I.cell, I.free, I.freeC, fun p hp => I.pin p (List.mem_append_left _ hp), I.hok, I.len⟩
end
/-- what the clause wishes of what is caught: it is of a class that the clause takes -/
def wT (K : PySem.W.Frag) (cv : Value) (i : Nat) (ts : TS) (D : Ends) : WX := fun cls d σ H =>
  PySem.W.exmOne K cls cv = some true ∧ ∀ a, H a = none → ts { nx := fun σ' H' => D.nx (σ'.set i none) H', rt := D.rt, bk := fun σ' H' => D.bk (σ'.set i none) H', ct := fun σ' H' => D.ct (σ'.set i none) H' } (σ.set i (some (.ref a))) (upd H a (XcO cls d a))
section
variable {X : Cx} {x n : Str} {cv : Value} {i : Nat} {body suite : List Stmt} {b₀ : Stmt} {np pos pos' : Pos} {tb : WX → TS} {ts : TS}
theorem ps_tryT (hs : X.stack = X.env :: X.outer) (hf : X.env.frame = some X.env.locals) (hN : X.N.Nodup) (hi : X.N[i]? = some n) (hln : X.env.kindOf n = some .local) (hc : Names X x cv)
    (hb : ∀ (W : WX) (pn : List (Addr × Obj)) (xe : Value → Shared → Prop), Takes (X.tr pn xe) W → PySem.PassesOwn (model X.prog X.w) X.A X.env xe → PSs (X.tr pn xe) body (tb W))
    (hsu : ∀ (a : Addr) (pn : List (Addr × Obj)), PSs (X.suite a pn) (b₀ :: suite) ts) :
    PS X (.Try body [.ExceptHandler (some (.Name x np)) (some n) (b₀ :: suite) pos'] [] [] pos) (fun D σ H => tb (wT X.K cv i ts D) D σ H) := by
  refine ⟨fun pins s σ H D I h => wpAny_Try_except ?_⟩
  have ok := I.ok
  have frm : X.A.frames = some (X.env :: X.outer) := by rw [ok.frames, hs]
  have core := (hb (wT X.K cv i ts D) (X.pn ++ pins) (fun e s₁ => wpAny (model X.prog X.w) X.A (noteFrame e X.env) (fun _ s₂ => wpAny (model X.prog X.w) X.A (setFlight e none) (fun _ s₃ =>
    wpAny (model X.prog X.w) X.A (handleBy e X.env [.ExceptHandler (some (.Name x np)) (some n) (b₀ :: suite) pos']) (SP X pins D) X.xe s₃) X.xe s₂) X.xe s₁) (fun u s' xx => ?_) PassesOwn.looking).run [] s σ H D (I.toTry _) h
  · refine wpAny_mono core (fun f s1 q => ?_) fun _ _ z => z
    cases f with
    | next =>
      obtain ⟨σ', H', J, w⟩ := q
      exact wpAny_execs_nil ⟨σ', H', J.ofTry ok, w⟩
    | brk =>
      obtain ⟨σ', H', J, w⟩ := q
      exact ⟨σ', H', J.ofTry ok, w⟩
    | cont =>
      obtain ⟨σ', H', J, w⟩ := q
      exact ⟨σ', H', J.ofTry ok, w⟩
    | ret u =>
      obtain ⟨v, σ', H', J, r, w⟩ := q
      exact ⟨v, σ', H', J.ofTry ok, r, w⟩
  · obtain ⟨a, B, sI, pins', σ', H', cls, d, rfl, J', nb, up, sky, na, os, ag, hm, go⟩ := xx
    have J : Inv X pins σ' H' sI := J'.ofTry ok
    show wpAny (model X.prog X.w) X.A (noteFrame (.ref a) X.env) _ _ _
    have sky2 : Sky B (X.env :: X.outer) a (Zc cls d) X.env.locals s'.heap := hs ▸ sky
    refine Sky.land Zc.steady frm hf sky2 fun h3 fl3 up3 => ?_
    have J3 : Inv X pins σ' H' { s' with heap := h3 } := J.landed nb fl3.1 (up.trans up3) os ag
    have away : ∀ {h : Heap}, HandSPX.FlyingZ B (X.env :: X.outer) a (Zc cls d) h → a ∉ frs (X.env :: X.outer) := fun {h} fl hm => by
      obtain ⟨oe, vs, he, _, hd⟩ := fl.there
      obtain ⟨_, o', e', hnf⟩ := fl.2.2.1.mem hm
      rw [he] at e'
      cases e'
      exact hnf _ hd
    have nfr := away fl3
    obtain ⟨oe3, vs3, he3, hz3, hd3⟩ := fl3.there
    have nL : a ≠ X.env.locals := fun z => nfr (List.mem_filterMap.mpr ⟨X.env, List.mem_cons_self, by rw [hf, z]⟩)
    have nF : a ∉ X.fs := fun hm => by
      obtain ⟨e, he, q⟩ := List.mem_filterMap.mp hm
      exact nfr (List.mem_filterMap.mpr ⟨e, List.mem_cons_of_mem _ he, q⟩)
    have S3 := J3.suite he3 hd3 na nL nF
    refine wpAny_handleBy_cons (codeAny_handlers_test ?_) (by intro q; cases q)
    have T3 : PySem.W.Looks (model X.prog X.w) h3 (typeOf (.ref a)) cls := fun A Q E s k q => wpAny_typeOf_ref (k _ _ he3) (by rw [hz3.1]; exact q)
    have M3 := PySem.W.exm_one (M := model X.prog X.w) J3.kIn T3 hm
    have look : ∀ {Q : Value → Shared → Prop} {E : Value → Shared → Prop}, Q cv { s' with heap := h3 } → wpAny (model X.prog X.w) (X.A.mark (some (.ref a))) (eval (.Name x np) X.env) Q E { s' with heap := h3 } := fun {Q E} q => by
      rcases hc with ⟨hg, hdbg, hv⟩
      rcases hv with hv | ⟨hv, hb, hnn⟩
      · exact ld_glob (X := X.suite a ((a, oe3) :: (X.pn ++ pins))) S3 hg hv q hdbg
      · exact ld_blt (X := X.suite a ((a, oe3) :: (X.pn ++ pins))) S3 hg hv hb q hnn hdbg
    refine look (M3.here (codeAny_handlers_suite_as ?_))
    refine HandSPX.lands_againZ fl3 fun h4 fl4 up4 => ?_
    obtain ⟨oe4, vs4, he4, hz4, hd4⟩ := fl4.there
    have nB : B.get? a = none := fl4.2.1
    have nS : a ∉ frs X.stack := by rw [hs]; exact away fl4
    have J4 : Inv X pins σ' (upd H' a (XcO cls d a)) { s' with heap := h4 } := landT (s' := { s' with heap := h4 }) J nb fl4.1 ((up.trans up3).trans up4) os ag na nB nS
      ⟨⟨oe4, vs4, he4, hz4, hd4⟩, ⟨oe4, he4⟩, fun _ _ ⟨u, v, e, r⟩ k => ⟨u, v, k u e, r⟩⟩
    refine store_ok (X := X.suite a (X.pn ++ pins)) (v := .ref a) (intoSuite J4 a) hN hi (.inl hln) rfl (fun s5 S5 => ?_) (.inr hln)
    refine wpAny_mono ((hsu a (X.pn ++ pins)).run [] s5 _ _ _ S5 (go a na)) (fun f s6 q => ?_) fun _ _ z => False.elim z
    have off : ∀ {σ6 : St} {H6 : Hp} {Q : Shared → Prop}, Inv (X.suite a (X.pn ++ pins)) [] σ6 H6 s6 → (∀ s7, Inv X pins (σ6.set i none) H6 s7 → Q s7) →
        wpAny (model X.prog X.w) X.A (do bindName X.env n .none; unbindBehindTheSuite X.env n pos') (fun _ s7 => Q s7) X.xe s6 := fun {σ6 H6 Q} S6 hq => gone_ok (outSuite S6 ok) hN hi hln hq
    cases f with
    | next =>
      obtain ⟨σ6, H6, S6, w⟩ := q
      exact off S6 fun s7 J7 => ⟨_, _, J7, w⟩
    | brk =>
      obtain ⟨σ6, H6, S6, w⟩ := q
      exact off S6 fun s7 J7 => ⟨_, _, J7, w⟩
    | cont =>
      obtain ⟨σ6, H6, S6, w⟩ := q
      exact off S6 fun s7 J7 => ⟨_, _, J7, w⟩
    | ret u =>
      obtain ⟨v, σ6, H6, S6, r, w⟩ := q
      exact off S6 fun s7 J7 => ⟨_, _, _, J7, r, w⟩
end
end Vi
end
section
set_option Elab.async false
set_option linter.all false
set_option maxRecDepth 100000
set_option maxHeartbeats 2000000
namespace Vi
open PySem PySem.Spec L2
open PyProof.Rows (AllBare)
/-! raise C("..") of an own class without fields -/
def sRaise (C : String) : SM := fun σ A => .ok (.xc C [] σ) A
structure RzX (K : PySem.W.Frag) (mg : Str → Option Value) (c : String → Addr) (x : Str) (C : String) : Prop where
  ex : PySem.W.excIn K (c C) [.type "ValueError", .type "Exception", .type "BaseException", .type "object"] "ValueError.__new__" = true
  gl : mg x = some (.ref (c C))
  kp : PySem.W.keepIn K (.ref (c C)) = true
  sb : PySem.W.subIn K (.ref (c C)) (.type "BaseException") = some true
  ty : PySem.W.typeIn K (.ref (c C)) = some (.type "type")
section
variable {X : Cx} {c : String → Addr} {EX : WX} {x m : Str} {C : String} {j : Nat} {p p2 pos pos' : Pos}
theorem ss_raise (hc : X.calm = true) (T : RzX X.K X.mg c x C) (hg : Gl X x) (tk : Takes X EX) (hdb : (x == ("__debug__" : Str)) = false := by decide) :
    PS X (.Raise (some (.Call (.Name x p) [.Constant (.str m) j p2] [] pos)) none pos') (tS ⟨X.K, c⟩ EX (sRaise C)) :=
  PS.imp (ps_raise hc tk (pmk_own PySem.F.excBase_ValueError T.ex T.gl T.kp (raises_own T.sb T.ty) hg hdb)) fun D' σ H ⟨W, ρ, A, σd, hR, hE, hP⟩ => PostS.val hR hP σ none hE (.inl ⟨rfl, rfl⟩)
end
/-! try: .. except C as n: .. -/
def aftX (i : Nat) (r : R Fl) : R Fl := match r with
  | .ok (.nx σ) A => .ok (.nx (σ.set i none)) A
  | .ok (.bk σ) A => .ok (.bk (σ.set i none)) A
  | .ok (.ct σ) A => .ok (.ct (σ.set i none)) A
  | .ok (.rt d) A => .ok (.rt d) A
  | _ => .no
def sTry (L : List String) (i : Nat) (mb ms : SM) : SM := fun σ A => match mb σ A with
  | .ok (.xc C fs σ1) A1 => if C ∈ L then aftX i (ms (σ1.set i (some (.exc C (fs.map (·.1)) (fs.map (·.2))))) A1) else .no
  | r => r
section
variable {X : Cx} {c : String → Addr} {EX : WX} {x n : Str} {cv : Value} {i : Nat} {L : List String} {body suite : List Stmt} {b₀ : Stmt} {np pos pos' : Pos} {mb ms : SM}
theorem ss_try (hs : X.stack = X.env :: X.outer) (hf : X.env.frame = some X.env.locals) (hN : X.N.Nodup) (hi : X.N[i]? = some n) (hln : X.env.kindOf n = some .local) (hc : Names X x cv)
    (hm : ∀ C ∈ L, PySem.W.exmOne X.K (.ref (c C)) cv = some true)
    (hb : ∀ (EX : WX) (pn : List (Addr × Obj)) (xe : Value → Shared → Prop), Takes (X.tr pn xe) EX → PySem.PassesOwn (model X.prog X.w) X.A X.env xe → PSs (X.tr pn xe) body (tS ⟨X.K, c⟩ EX mb))
    (hsu : ∀ (a : Addr) (pn : List (Addr × Obj)), PSs (X.suite a pn) (b₀ :: suite) (tS ⟨X.K, c⟩ (fun _ _ _ _ => False) ms)) :
    PS X (.Try body [.ExceptHandler (some (.Name x np)) (some n) (b₀ :: suite) pos'] [] [] pos) (tS ⟨X.K, c⟩ EX (sTry L i mb ms)) := by
  refine PS.imp (ps_tryT (tb := fun W => tS ⟨X.K, c⟩ W mb) (ts := tS ⟨X.K, c⟩ (fun _ _ _ _ => False) ms) hs hf hN hi hln hc hb hsu) fun D' σ H ⟨W, ρ, A, σd, hR, hE, hP⟩ => ?_
  refine ⟨W, ρ, A, σd, hR, hE, ?_⟩
  unfold sTry at hP
  cases e : mb σd A with
  | no => rw [e] at hP; exact hP
  | ex => rw [e] at hP; exact hP
  | ok fl A1 =>
    rw [e] at hP
    cases fl with
    | nx | rt | bk | ct => exact hP
    | xc C fs σ1 =>
      intro W1 ρ1 H1 e1 R1 σ2 dd E2 x2
      simp only at hP
      split at hP
      · rename_i hC
        refine ⟨hm C hC, fun a na => ?_⟩
        obtain ⟨e2, R2⟩ := R1.newW (ho := XcO (.ref (c C)) dd a) na
        have hv : VR ⟨X.K, c⟩ (upd W1 a (XcO (.ref (c C)) dd a)) ρ1 (.exc C (fs.map (·.1)) (fs.map (·.2))) (.ref a) := by
          rcases x2 with ⟨rfl, rfl⟩ | ⟨hne, d, vs, rfl, hd, rv⟩
          · exact .exc (vs := []) (.inl ⟨rfl, upd_same⟩) rfl .nil
          · exact .exc (.inr ⟨by simpa using hne, d, upd_same, e2.ex.same _ _ hd⟩) (by simp) (rv.mono e2.ex)
        refine ⟨_, ρ1, A1, _, R2, (E2.mono e2.ex).set i hv, ?_⟩
        have P := hP.mono (e1.trans e2)
        revert P
        cases ms (σ1.set i (some (.exc C (fs.map (·.1)) (fs.map (·.2))))) A1 with
        | no => exact fun z => z
        | ex => exact fun z => z
        | ok fl2 A2 =>
          cases fl2 with
          | nx σ3 => exact fun z W3 ρ3 H3 e3 R3 σ4 E4 => z W3 ρ3 H3 e3 R3 _ (E4.unset i)
          | bk σ3 => exact fun z W3 ρ3 H3 e3 R3 σ4 E4 => z W3 ρ3 H3 e3 R3 _ (E4.unset i)
          | ct σ3 => exact fun z W3 ρ3 H3 e3 R3 σ4 E4 => z W3 ρ3 H3 e3 R3 _ (E4.unset i)
          | rt d => exact fun z => z
          | xc => exact fun z => z.elim
      · exact hP.elim
end
/-! isinstance(x, C): x None, or an exception that was caught; C an own class of exceptions or a built-in one -/
def fIsX (tab : List (String × Bool)) (x : D) (A : List O) : R D := match x with
  | .non => .ok (.bl false) A
  | .exc C _ _ => match tab.lookup C with
    | some b => .ok (.bl b) A
    | none => .no
  | _ => .no
structure IsC (K : PySem.W.Frag) (C : Addr) : Prop where
  hg : PySem.W.findIn K (.ref C) "__getattribute__" = some (some (.builtin "BaseException.__getattribute__"))
  hk : PySem.W.findIn K (.ref C) "__getattr__" = some none
  hs : PySem.W.subIn K (.ref C) (.type "BaseException") = some true
  hd : PySem.W.hasDictIn K C = true
  ha : PySem.W.findIn K (.ref C) "__class__" = some (some (.builtin "object.__class__"))
  hn : PySem.W.specialIn K (.builtin "object.__class__") "__get__" = some (some (.builtin "getset_descriptor.__get__"))
  ht : PySem.W.takesIn K (.builtin "object.__class__") = some true
  hm : PySem.W.mroIn K C (.type "object") = some true
  ty : PySem.W.typeIn K (.ref C) = some (.type "type")
theorem IsC.cls {K : PySem.W.Frag} {C : Addr} (T : IsC K C) : (PySem.W.clsIn K C).isSome = true := by
  obtain ⟨cd, hc, _⟩ := PySem.W.any_some T.hd
  rw [hc]; rfl
/-! what the facts are made of -/
section
variable {K : PySem.W.Frag} {C C2 : Addr} {b r : Bool} {us : List Value}
theorem em_ref {cls : Value} (T : IsC K C2) (h : PySem.W.subIn K cls (.ref C2) = some b) : PySem.W.exmOne K cls (.ref C2) = some b := PySem.W.exm_ref T.hs T.hd T.ty h
end
end Vi
end
section
set_option Elab.async false
set_option linter.all false
set_option maxRecDepth 100000
set_option maxHeartbeats 2000000
namespace Vi
open PySem PySem.Spec L2
/-! f(b = .., a = ..): every parameter by its name -/
def pm {α : Type} (js : List Nat) (xs : List α) : List α := js.filterMap fun j => xs[j]?
@[simp] theorem pm_10 {α : Type} (a b : α) : pm [1, 0] [a, b] = [b, a] := rfl
@[simp] theorem pm_01 {α : Type} (a b : α) : pm [0, 1] [a, b] = [a, b] := rfl
@[simp] theorem pm_0 {α : Type} (a : α) : pm [0] [a] = [a] := rfl
@[simp] theorem pm_210 {α : Type} (a b c : α) : pm [2, 1, 0] [a, b, c] = [c, b, a] := rfl
def mCallK (m : List D → List O → R D) (js : List Nat) (mr : M (List D)) : M D := fun σ A => (mr σ A).bind fun xs A => m (pm js xs) A
end Vi
namespace Vi
open PySem PySem.Spec L2
/-! try: .. where nothing is raised -/
end Vi
end
section
set_option Elab.async false
set_option linter.all false
set_option maxRecDepth 100000
set_option maxHeartbeats 2000000
namespace Vi
open PySem PySem.Spec L2
open PyProof.Rows (AllBare)
/-! Base.__init__(self, ..) of an own class of exceptions that leaves it to ValueError -/
structure InitC (K : PySem.W.Frag) (C0 : Addr) : Prop where
  sp : PySem.W.specialIn K (.ref C0) "__getattribute__" = some (some (.builtin "type.__getattribute__"))
  rd : PySem.W.readsIn K C0 (.type "type") = true
  vi : PySem.W.findCls K (.ref C0) (.type "type") "__init__" = some (.val (.builtin "ValueError.__init__"))
section
variable {X : Cx} {x : Str} {C0 : Addr} {e : Expr} {es : List Expr} {ta : TA} {p1 p2 pos : Pos}
theorem pe_clinit {pl : Sem Bool} (T : InitC X.K C0) (hg : Gl X x) (hm : X.mg x = some (.ref C0)) (ha : PA X (e :: es) ta)
    (hc : eval (.Call (.Attribute (.Name x p1) "__init__" p2) (e :: es) [] pos) X.env = (do
      let ov ← eval (.Name x p1) X.env
      standAt p2.atName
      let (f, first) ← holding [ov] (getMethod ov "__init__" pl)
      callWith pos f first (backTo pos (starEach (e :: es) X.env)) (backToKw pos (keywordEach [] X.env))) := by rfl)
    (hd : (x == ("__debug__" : Str)) = false := by decide) (he : starEach (e :: es) X.env = (false, eval e X.env) :: starEach es X.env := by rfl) (hpl : (backTo pos (starEach es X.env)).any (·.1) = false := by rfl) :
    PE X (.Call (.Attribute (.Name x p1) "__init__" p2) (e :: es) [] pos) (tVeI X.K ta) := by
  refine ⟨fun pins s σ H Q I h => PySem.W.methodCall_KW (ld_glob I hg hm ?_ hd) hc⟩
  refine PySem.W.method_cls I.kIn T.sp (PySem.W.cls_value I.kIn T.rd T.vi (by decide +kernel) ?_)
  show wpAny _ _ (callWith pos (Value.builtin "ValueError.__init__") [] (backTo pos (starEach (e :: es) X.env)) []) _ _ _
  refine PyProof.Rows.callWith_method1 (thn (ha.run pos pins _ σ H _ (I.tok _) h) fun us s1 ⟨vs, H1, I1, r1, a, C, ws, ev, hl, TC, ea, q⟩ => ?_) he hpl
  subst ev
  cases r1 with
  | @cons _ u0 _ ur ra rw' =>
    cases (show u0 = Value.ref a from ra)
    exact oinit_ok TC I1 ea (by rw [← Paired.length rw', sizeLine_eq]; omega) fun s' J => ⟨.non, H1, J, rfl, q⟩
end
/-- an own class of exceptions with fields: its __init__ stores its arguments under their names -/
structure XcC (K : PySem.W.Frag) (mg : Str → Option Value) (c : String → Addr) (x : Str) (C : String) (f : Addr) (ns : List Str) : Prop where
  ox : OexC K (c C)
  gl : mg x = some (.ref (c C))
  ic : PySem.W.findIn K (.ref (c C)) "__init__" = some (some (.ref f))
  ti : PySem.W.typeIn K (.ref f) = some (.type "function")
  no : ∀ n ∈ ns, PySem.W.findIn K (.ref (c C)) n = some none
/-- what such an __init__ promises -/
def spI (C : Addr) (ns : List Str) : Sp := fun vs H Q E => ∃ (a : Addr) (ws : List V), vs = .ref a :: ws ∧ ws.length = ns.length ∧ ws.length ≤ 1000 ∧ H a = some (exo a C none) ∧
  ∀ (H2 : Hp) (dx : Addr), H dx = none → dx ≠ a → H2 a = some (exo a C (some dx)) → H2 dx = some (exd dx (ns.zip ws).reverse) → (∀ b, b ≠ a → b ≠ dx → H2 b = H b) → Q .non H2
section
variable {P : Program} {w : World} {K : PySem.W.Frag} {mg : Str → Option Value} {base : Heap} {CX : CXT} {c : String → Addr} {C : String} {f : Addr} {fd : FuncData} {st : Stmt} {qual x n1 n2 m : Str} {N ps : List Str} {k : Nat}
theorem init_run {ns : List Str} {t : TS} (F : FunX K "__init__" qual st f fd) (S : FnScope N ps (defScope st)) (hp : ps.length = ns.length + 1)
    (hb : ∀ (cdv : Value) (A : Around) (outer : List PySem.Env) (s : Shared) (H : Hp) (E : XK), PSs (cxOf CX P w K mg base N qual (defScope st) f cdv A outer s H E) (defBody st) t)
    (ht : ∀ (H : Hp) (vs : List V) (Q : VK) (E : XK), spI (c C) ns vs H Q E → t { nx := fun _ H' => Q .non H', rt := Q } (L2.start N vs) H) : FnOk P w K mg base CX (k + 1) f fd ps (spI (c C) ns) := by
  obtain ⟨oc, od, dV, kV, doc, pm, an, cdv, ct, osl, rfl, lk, hcd⟩ := F.ex
  exact fn_of lk hcd S (fun vs H Q E h => by
    obtain ⟨a, ws, rfl, hl, _⟩ := h
    rw [hp, List.length_cons, hl]) fun A outer s H vs Q E _ h => ⟨t, hb cdv A outer s H E, ht H vs Q E h⟩
theorem init1 (F : FunX K "__init__" qual st f fd) (T : XcC K mg c x C f [n1]) (S : FnScope ["self", n1] ["self", n1] (defScope st))
    (hb : ∀ (cdv : Value) (A : Around) (outer : List PySem.Env) (s : Shared) (H : Hp) (E : XK), PSs (cxOf CX P w K mg base ["self", n1] qual (defScope st) f cdv A outer s H E) (defBody st)
      (tSeq (tDrop (tVeI K (tCons (tVar 0) (tCons (tC (.str m)) tNil)))) (tOst K n1 (tVar 0) (tVar 1)))) : FnOk P w K mg base CX (k + 1) f fd ["self", n1] (spI (c C) [n1]) := by
  refine init_run F S rfl hb fun H vs Q E h => ?_
  obtain ⟨a, ws, rfl, hl, _, ea, hQ⟩ := h
  match ws, hl with
  | [v1], _ =>
  refine ⟨.ref a, rfl, a, c C, [.str m], rfl, (by show 1 ≤ 1000; decide), T.ox, ea, v1, rfl, .ref a, rfl, a, c C, rfl, T.ox, T.no _ List.mem_cons_self, .inl ⟨ea, fun dx hdx ne => ?_⟩⟩
  exact hQ _ dx hdx ne upd_same (by rw [upd_ne ne, upd_same]; rfl) fun b h1 h2 => by rw [upd_ne h1, upd_ne h2]
end
/-! raise C(e, ..) of such a class -/
def sRaiseX (C : String) (ns : List Str) (mr : M (List D)) : SM := withE mr fun σ xs A => if xs.length = ns.length then .ok (.xc C (ns.zip xs).reverse σ) A else .no
section
variable {X : Cx} {c : String → Addr} {EX : WX} {x : Str} {C : String} {f : Addr} {fd : FuncData} {ps ns : List Str} {k : Nat} {e : Expr} {es : List Expr} {mr : M (List D)} {p pos pos' : Pos} {ds : List Value}
theorem ss_raiseX (hc : X.calm = true) (T : XcC X.K X.mg c x C f ns) (F : FnOk X.prog X.w X.K X.mg X.base (L2.CX X.prog X.w) k f fd ps (spI (c C) ns)) (hr : RoomG (k + 1) X.A) (hb : Binds X.K fd ps []) (hne : ns ≠ []) (hns : ns.length ≤ 1000) (hg : Gl X x) (tk : Takes X EX)
    (ha : PA X (e :: es) (tA ⟨X.K, c⟩ EX mr)) (hdb : (x == ("__debug__" : Str)) = false := by decide) (he : starEach (e :: es) X.env = (false, eval e X.env) :: starEach es X.env := by rfl) (hpl : (backTo pos (starEach es X.env)).any (·.1) = false := by rfl) :
    PS X (.Raise (some (.Call (.Name x p) (e :: es) [] pos)) none pos') (tS ⟨X.K, c⟩ EX (sRaiseX C ns mr)) :=
  PS.imp (ps_raise hc tk (pmk_oex T.ox T.ic T.ti F hr.room hb .nil (fun pins σ H s e s' I h => by
    obtain ⟨_, _, _, _, _, _, _, _, _, _, _, _, z⟩ := h
    exact z.elim) hg T.gl ha hdb he hpl)) fun D' σ H q => (tS.withE (rel := VRs ⟨X.K, c⟩) q).weak fun vs H1 ⟨W, ρ, A, σd, xs, hR, hE, rv, hP⟩ => by
    split at hP
    · rename_i hl
      have hlv : vs.length = ns.length := by rw [← rv.length]; exact hl
      refine ⟨by omega, fun a ha => ⟨a, vs, by rw [List.append_nil], hlv, by omega, upd_same, fun H2 dx hdx ne e1 e2 e3 => ⟨rfl, dx, _, e1, e2, ?_, ?_⟩⟩⟩
      · rw [upd_ne ne] at hdx; exact hdx
      · rw [upd_ne ne] at hdx
        have eH : upd (del H2 a) dx (.xd (ns.zip vs).reverse) = upd H1 dx (.xd (ns.zip vs).reverse) := by
          funext b
          by_cases hbd : b = dx
          · subst hbd; rw [upd_same, upd_same]
          · rw [upd_ne hbd, upd_ne hbd]
            by_cases hba : b = a
            · subst hba; rw [del_same, ha]
            · rw [del_ne hba, e3 b hba hbd, upd_ne hba]
        rw [eH]
        obtain ⟨x1, R1⟩ := hR.newW (ho := .xd (ns.zip vs).reverse) hdx
        have P1 := PostS.val R1 (hP.mono x1)
        refine P1 σ (some dx) (hE.mono x1.ex) (.inr ⟨?_, dx, vs.reverse, rfl, ?_, ?_⟩)
        · cases ns with
          | nil => exact absurd rfl hne
          | cons n r =>
            cases xs with
            | nil => cases hl
            | cons y z => simp
        · rw [upd_same]
          have : ∀ {α β : Type} {l : List α} {r : List β}, l.length = r.length → (l.zip r).reverse = l.reverse.zip r.reverse := fun {α β l r} h => by
            rw [List.zip_eq_zipWith, List.zip_eq_zipWith, List.reverse_zipWith h]
          have e4 : ((ns.zip xs).reverse.map (·.1)) = ns.reverse := by
            rw [List.map_reverse, List.map_fst_zip (by omega)]
          rw [e4, this hlv.symm]
        · have e5 : ((ns.zip xs).reverse.map (·.2)) = xs.reverse := by
            rw [List.map_reverse, List.map_snd_zip (by omega)]
          rw [e5]
          exact (rv.reverse).mono x1.ex
    · exact hP.elim
end
/-! x.f of a caught exception -/
def dFldX (f : Str) (x : D) (A : List O) : R D := match x with
  | .exc _ ns ds => match (ns.zip ds).lookup f with
    | some d => .ok d A
    | none => .no
  | _ => .no
theorem VRs.look {g : G} {W : Hp} {ρ : List Addr} {f : Str} {d : D} : ∀ {ns : List Str} {ds : List D} {vs : List V}, VRs g W ρ ds vs → (ns.zip ds).lookup f = some d → ∃ v, (ns.zip vs).lookup f = some v ∧ VR g W ρ d v
  | [], _, _, _, h => by simp at h
  | n :: ns, _, _, .nil, h => by simp at h
  | n :: ns, _, _, .cons (d := d0) (v := v0) r t, h => by
    rw [List.zip_cons_cons, List.lookup_cons] at h ⊢
    split at h
    · cases h
      exact ⟨v0, rfl, r⟩
    · exact VRs.look t h
section
variable {X : Cx} {c : String → Addr} {EX : WX} {e : Expr} {ma : M D} {pos : Pos} {n : Str} {L : List String}
def tXfT (K : PySem.W.Frag) (f : Str) (te : TE) : TE := fun σ H Q => te σ H fun x H1 => ∃ (a C dx : Addr) (fs : List (Str × V)) (v : V), x = .ref a ∧ H1 a = some (XcO (.ref C) (some dx) a) ∧ H1 dx = some (.xd fs) ∧ IsC K C ∧ PySem.W.findIn K (.ref C) f = some none ∧ fs.lookup f = some v ∧ Q v H1
theorem pe_xfT {te : TE} (he : PE X e te) (hb : attributeBase e n X.env (eval e X.env) = eval e X.env := by rfl) : PE X (.Attribute e n pos) (tXfT X.K n te) := by
  refine ⟨fun pins s σ H Q I h => attr_of hb (thn (he.run pins s σ H _ I h) fun u s1 hh => ?_)⟩
  obtain ⟨x, H1, I1, rx, a, C, dx, fs, v, rfl, ha, hx, T, hno, l, q⟩ := hh
  cases (show u = Value.ref a from rx)
  obtain ⟨⟨oe, vs, e1, ⟨z1, z2⟩, e3⟩, _⟩ := (show ObjOk X.prog X.w H1 s1.heap a (XcO (.ref C) (some dx) a) from I1.hok a _ ha)
  obtain ⟨mA, hns, hr⟩ := (show ObjOk X.prog X.w H1 s1.heap dx (.xd fs) from I1.hok dx _ hx)
  obtain ⟨od, ho, hl⟩ := lookIn_ns hns
  obtain ⟨u, hu, ru⟩ := RelO.some_of (v := v) (o := mA n) (by rw [← l]; exact hr n)
  have nc : PySem.W.notCls oe = true := by unfold PySem.W.notCls; rw [e3] <;> rfl
  have J : PySem.W.InstAt s1.heap a oe C (some od) := ⟨e1, z1, nc, by rw [z2]; exact ho⟩
  exact HandSPX.exc_get I1.kIn J T.hg T.hk T.hs (PySem.W.findObj_own T.hd hno rfl (by rw [hl, hu])) (handed_of ru) ⟨v, H1, I1.tok _, ru, q⟩
/-- of the classes L -/
def dFldL (L : List String) (f : Str) (x : D) (A : List O) : R D := match x with
  | .exc C _ _ => if C ∈ L then dFldX f x A else .no
  | _ => .no
theorem se_xf (ha : PE X e (tE ⟨X.K, c⟩ EX ma)) (T : ∀ C ∈ L, IsC X.K (c C) ∧ PySem.W.findIn X.K (.ref (c C)) n = some none) (hb : attributeBase e n X.env (eval e X.env) = eval e X.env := by rfl) : PE X (.Attribute e n pos) (tE ⟨X.K, c⟩ EX (m1 (dFldL L n) ma)) :=
  PE.imp (pe_xfT ha hb) fun σ H Q h => (tM.bind (rel := VR ⟨X.K, c⟩) (m := ma) (f := fun _ => dFldL L n) h).weak fun v H1 ⟨W, ρ, A, σd, x, hR, hE, rx, hP⟩ => by
    unfold dFldL at hP
    split at hP
    · rename_i C ns ds
      split at hP
      · rename_i hC
        obtain ⟨t1, t2⟩ := T C hC
        unfold dFldX at hP
        simp only at hP
        split at hP
        · rename_i d el
          cases rx with
          | @exc _ _ _ a vs hw hl rv =>
            obtain ⟨v, l, r⟩ := rv.look el
            rcases hw with ⟨hn, _⟩ | ⟨_, dx, hw, hx⟩
            · subst hn; simp at el
            · exact ⟨a, _, dx, _, v, rfl, hR.ext _ _ hw, hR.ext _ _ hx, t1, t2, l, Post.val hR r hP⟩
        · exact hP.elim
      · exact hP.elim
    · exact hP.elim
end
end Vi
end
section
set_option Elab.async false
set_option linter.all false
set_option maxRecDepth 100000
set_option maxHeartbeats 4000000
namespace Mb
open PySem PySem.Spec L2 Vi
noncomputable def b_answer_cases (r_answer_cases : List D → List O → R D) (r_answer : List D → List O → R D) : SM :=
  (sSeq (sFor (mSrc (m2 dIx (mVar 0) (mC (.int 1)))) (tgT 2 (tgsCons (tgN 2) (tgsCons (tgN 3) tgsNil)))
  (sIf (mTru (mCall r_answer [] (mArgs (mVar 2) (mArgs (mVar 1) mArgs0))))
  (sRet (mCall r_answer [] (mArgs (mVar 3) (mArgs (mVar 1) mArgs0))))
  sPass))
  (sRet (mCall r_answer [] (mArgs (m2 dIx (mVar 0) (mC (.int 2))) (mArgs (mVar 1) mArgs0)))))
noncomputable def b_answer (r_answer_cases : List D → List O → R D) (r_answer : List D → List O → R D) : SM :=
  (sSeq (sIf (mBl (m2 dEq (m2 dIx (mVar 0) (mC (.int 0))) (mC (.str "cases"))))
  (sRet (mCall r_answer_cases [] (mArgs (mVar 0) (mArgs (mVar 1) mArgs0))))
  sPass)
  (sSeq (sIf (mBl (m2 dEq (m2 dIx (mVar 0) (mC (.int 0))) (mC (.str "wish"))))
  (sRet (m2 dIx (mVar 1) (m2 dIx (mVar 0) (mC (.int 1)))))
  sPass)
  (sSeq (sIf (mBl (m2 dEq (m2 dIx (mVar 0) (mC (.int 0))) (mC (.str "not"))))
  (sRet (m1 dNot (mCall r_answer [] (mArgs (m2 dIx (mVar 0) (mC (.int 1))) (mArgs (mVar 1) mArgs0)))))
  sPass)
  (sSeq (sIf (mBl (m2 (dIn false) (m2 dIx (mVar 0) (mC (.int 0))) (mA fTup (mArgs (mC (.str "yes")) (mArgs (mC (.str "no")) mArgs0)))))
  (sRet (m2 dEq (m2 dIx (mVar 0) (mC (.int 0))) (mC (.str "yes"))))
  sPass)
  (sSeq (sSet 2 (mLc true (mSrc (m2 dIx (mVar 0) (mC (.int 1)))) (tgN 3) mYes (mCall r_answer [] (mArgs (mVar 3) (mArgs (mVar 1) mArgs0))) [3]))
  (sSeq (sIf (mBl (m2 dEq (m2 dIx (mVar 0) (mC (.int 0))) (mC (.str "and"))))
  (sRet (mA fAll (mArgs (mVar 2) mArgs0)))
  sPass)
  (sRet (mA fAny (mArgs (mVar 2) mArgs0)))))))))
noncomputable def mm_answer_cases : Nat → (List D → List O → R D) × (List D → List O → R D)
  | 0 => (fun _ _ => .no, fun _ _ => .no)
  | n + 1 => (runB 4 (b_answer_cases (mm_answer_cases n).1 (mm_answer_cases n).2), runB 4 (b_answer (mm_answer_cases n).1 (mm_answer_cases n).2))
noncomputable def m_answer_cases (n : Nat) : List D → List O → R D := (mm_answer_cases n).1
noncomputable def m_answer (n : Nat) : List D → List O → R D := (mm_answer_cases n).2
noncomputable def b_law_pool : SM :=
  (sSeq (sSet 2 (mC (.int 0)))
  (sSeq (sIf (mBl (m2 dNe (mVar 0) (mA (newL true) mArgs0)))
  (sSet 2 (m2 dIx (mVar 0) (m2 dMod (mVar 1) (mA fLen (mArgs (mVar 0) mArgs0)))))
  sPass)
  (sSeq (sIf (mBl (m2 dGe (mVar 1) (mA fLen (mArgs (mVar 0) mArgs0))))
  (sSet 2 (m2 dIx (mA (newL true) (mArgs (m2 dMod (mVar 2) (mC (.int 1000003))) (mArgs (m2 dFdiv (mVar 2) (m2 dPow (mC (.int 10)) (mC (.int 18)))) mArgs0))) (mA fInt (mArgs (m2 dGe (mVar 2) (m2 dPow (mC (.int 10)) (mC (.int 36)))) mArgs0))))
  sPass)
  (sSeq (sSet 3 (m2 dMod (m2 dMul (m2 (dAdd true) (m2 (dAdd true) (m2 dMod (mVar 2) (mC (.int 2147483629))) (m2 dMul (mC (.int 104729)) (mVar 1))) (mC (.int 11))) (mC (.int 48271))) (mC (.int 2147483647))))
  (sRet (mA (newL false) (mArgs (m2 dMul (mVar 2) (mA fInt (mArgs (m2 dGe (mVar 2) (m2 dPow (mC (.int 10)) (mC (.int 18)))) mArgs0))) (mArgs (mVar 3) mArgs0))))))))
noncomputable def m_law_pool : List D → List O → R D := runB 4 b_law_pool
noncomputable def b_law_take : SM :=
  (sSeq (sIf (mBl (m2 dGt (m2 dIx (mVar 0) (mC (.int 0))) (mC (.int 0))))
  (sSeq (sSet 2 (m2 dMod (m2 dIx (mVar 0) (mC (.int 0))) (mVar 1)))
  (sSeq (sAsg (m2 dFdiv (m2 dIx (mVar 0) (mC (.int 0))) (mVar 1)) (tgSub (mVar 0) (mC (.int 0))))
  (sRet (mVar 2))))
  sPass)
  (sSeq (sAsg (m2 dMod (m2 (dAdd true) (m2 dMul (m2 dIx (mVar 0) (mC (.int 1))) (mC (.int 48271))) (mC (.int 11))) (mC (.int 2147483647))) (tgSub (mVar 0) (mC (.int 1))))
  (sRet (m2 dMod (m2 dFdiv (m2 dMod (m2 dMul (m2 dIx (mVar 0) (mC (.int 1))) (m2 dIx (mVar 0) (mC (.int 1)))) (mC (.int 2147483629))) (mC (.int 64))) (mVar 1)))))
noncomputable def m_law_take : List D → List O → R D := runB 3 b_law_take
noncomputable def b_law_decision (r_law_decision : List D → List O → R D) : SM :=
  (sSeq (sSet 4 (mCall m_law_take [] (mArgs (mVar 0) (mArgs (mC (.int 9)) mArgs0))))
  (sSeq (sIf (mOrT (mBl (m2 dLt (mVar 2) (mC (.int 3)))) (mOrT (mBl (m2 dLt (mVar 3) (mC (.int 2)))) (mBl (m2 dEq (mVar 4) (mC (.int 0))))))
  (sSeq (sIf (mBl (m2 dEq (mCall m_law_take [] (mArgs (mVar 0) (mArgs (mC (.int 9)) mArgs0))) (mC (.int 0))))
  (sRet (m2 dIx (mA (newL true) (mArgs (mA fTup (mArgs (mC (.str "yes")) mArgs0)) (mArgs (mA fTup (mArgs (mC (.str "no")) mArgs0)) mArgs0))) (mCall m_law_take [] (mArgs (mVar 0) (mArgs (mC (.int 2)) mArgs0)))))
  sPass)
  (sRet (mA fTup (mArgs (mC (.str "wish")) (mArgs (mCall m_law_take [] (mArgs (mVar 0) (mArgs (mVar 1) mArgs0))) mArgs0)))))
  sPass)
  (sSeq (sIf (mBl (m2 dLt (mVar 4) (mC (.int 3))))
  (sRet (mA fTup (mArgs (mC (.str "not")) (mArgs (mCall r_law_decision [] (mArgs (mVar 0) (mArgs (mVar 1) (mArgs (m2 dSub (mVar 2) (mC (.int 1))) (mArgs (m2 dSub (mVar 3) (mC (.int 1))) mArgs0))))) mArgs0))))
  sPass)
  (sSeq (sIf (mBl (m2 dLt (mVar 4) (mC (.int 7))))
  (sSeq (sSet 5 (m2 (dAdd true) (mC (.int 1)) (mCall m_law_take [] (mArgs (mVar 0) (mArgs (mA fMin2 (mArgs (mC (.int 6)) (mArgs (m2 dSub (mVar 2) (mC (.int 1))) mArgs0))) mArgs0)))))
  (sSeq (sSet 9 (mLc true (mSrcA fRange1 (mArgs (mVar 5) mArgs0)) (tgN 8) mYes (mCall r_law_decision [] (mArgs (mVar 0) (mArgs (mVar 1) (mArgs (m2 dFdiv (m2 dSub (mVar 2) (mC (.int 1))) (mVar 5)) (mArgs (m2 dSub (mVar 3) (mC (.int 1))) mArgs0))))) [8]))
  (sRet (mA fTup (mArgs (m2 dIx (mA (newL true) (mArgs (mC (.str "and")) (mArgs (mC (.str "or")) mArgs0))) (m2 dMod (mVar 4) (mC (.int 2)))) (mArgs (mA fTupOf (mArgs (mVar 9) mArgs0)) mArgs0))))))
  sPass)
  (sSeq (sSet 5 (m2 (dAdd true) (mC (.int 1)) (mCall m_law_take [] (mArgs (mVar 0) (mArgs (mA fMin2 (mArgs (mC (.int 4)) (mArgs (m2 (dAdd true) (m2 dFdiv (m2 dSub (mVar 2) (mC (.int 2))) (mC (.int 2))) (mC (.int 1))) mArgs0))) mArgs0)))))
  (sSeq (sSet 6 (m2 dFdiv (m2 dSub (mVar 2) (mC (.int 1))) (m2 (dAdd true) (m2 dMul (mC (.int 2)) (mVar 5)) (mC (.int 1)))))
  (sSeq (sIf (mBl (m2 dLt (mVar 6) (mC (.int 1))))
  (sRet (mA fTup (mArgs (mC (.str "wish")) (mArgs (mCall m_law_take [] (mArgs (mVar 0) (mArgs (mVar 1) mArgs0))) mArgs0))))
  sPass)
  (sSeq (sSet 7 (mA (newL false) mArgs0))
  (sSeq (sFor (mSrcA fRange1 (mArgs (mVar 5) mArgs0)) (tgN 8)
  (sSeq (sSet 10 (mCall r_law_decision [] (mArgs (mVar 0) (mArgs (mVar 1) (mArgs (mVar 6) (mArgs (m2 dSub (mVar 3) (mC (.int 1))) mArgs0))))))
  (sExpr (mMeth isL fAppend (mVar 7) (mArgs (mA fTup (mArgs (mVar 10) (mArgs (mCall r_law_decision [] (mArgs (mVar 0) (mArgs (mVar 1) (mArgs (mVar 6) (mArgs (m2 dSub (mVar 3) (mC (.int 1))) mArgs0))))) mArgs0))) mArgs0)))))
  (sRet (mA fTup (mArgs (mC (.str "cases")) (mArgs (mA fTupOf (mArgs (mVar 7) mArgs0)) (mArgs (mCall r_law_decision [] (mArgs (mVar 0) (mArgs (mVar 1) (mArgs (mVar 6) (mArgs (m2 dSub (mVar 3) (mC (.int 1))) mArgs0))))) mArgs0))))))))))))))
noncomputable def m_law_decision : Nat → List D → List O → R D
  | 0 => fun _ _ => .no
  | n + 1 => runB 11 (b_law_decision (m_law_decision n))
noncomputable def b_law_answer (r_law_answer : List D → List O → R D) : SM :=
  (sSeq (sIf (mBl (m2 dEq (m2 dIx (mVar 0) (mC (.int 0))) (mC (.str "wish"))))
  (sRet (m2 dIx (mVar 1) (m2 dIx (mVar 0) (mC (.int 1)))))
  sPass)
  (sSeq (sIf (mBl (m2 (dIn false) (m2 dIx (mVar 0) (mC (.int 0))) (mA (newL true) (mArgs (mC (.str "yes")) (mArgs (mC (.str "no")) mArgs0)))))
  (sRet (m2 dEq (m2 dIx (mVar 0) (mC (.int 0))) (mC (.str "yes"))))
  sPass)
  (sSeq (sIf (mBl (m2 dEq (m2 dIx (mVar 0) (mC (.int 0))) (mC (.str "not"))))
  (sRet (m1 dNot (mCall r_law_answer [] (mArgs (m2 dIx (mVar 0) (mC (.int 1))) (mArgs (mVar 1) mArgs0)))))
  sPass)
  (sSeq (sIf (mBl (m2 dEq (m2 dIx (mVar 0) (mC (.int 0))) (mC (.str "and"))))
  (sRet (m2 dEq (mLc true (mSrc (m2 dIx (mVar 0) (mC (.int 1)))) (tgN 4) (mNotT (mTru (mCall r_law_answer [] (mArgs (mVar 4) (mArgs (mVar 1) mArgs0))))) (mVar 4) [4]) (mA (newL true) mArgs0)))
  sPass)
  (sSeq (sIf (mBl (m2 dEq (m2 dIx (mVar 0) (mC (.int 0))) (mC (.str "or"))))
  (sRet (m2 dNe (mLc true (mSrc (m2 dIx (mVar 0) (mC (.int 1)))) (tgN 4) (mTru (mCall r_law_answer [] (mArgs (mVar 4) (mArgs (mVar 1) mArgs0)))) (mVar 4) [4]) (mA (newL true) mArgs0)))
  sPass)
  (sSeq (sFor (mSrc (m2 dIx (mVar 0) (mC (.int 1)))) (tgT 2 (tgsCons (tgN 2) (tgsCons (tgN 3) tgsNil)))
  (sIf (mTru (mCall r_law_answer [] (mArgs (mVar 2) (mArgs (mVar 1) mArgs0))))
  (sRet (mCall r_law_answer [] (mArgs (mVar 3) (mArgs (mVar 1) mArgs0))))
  sPass))
  (sRet (mCall r_law_answer [] (mArgs (m2 dIx (mVar 0) (mC (.int 2))) (mArgs (mVar 1) mArgs0))))))))))
noncomputable def m_law_answer : Nat → List D → List O → R D
  | 0 => fun _ _ => .no
  | n + 1 => runB 5 (b_law_answer (m_law_answer n))
end Mb
end
section
set_option Elab.async false
set_option linter.all false
set_option maxRecDepth 100000
set_option maxHeartbeats 4000000
namespace Mb
open PySem PySem.Spec L2 Vi
theorem pys_ints (A : List O) (k : Nat) : ∀ ns : List Int, pys (py A k) (ns.map D.int) = some (ns.map PyData.int)
  | [] => rfl
  | n :: ns => by
    have e : py A k (.int n) = some (.int n) := by cases k <;> rfl
    rw [List.map_cons, pys, e, pys_ints A k ns]; rfl
theorem lay_ints : ∀ ns : List Int, PyData.canLayAll0 (ns.map PyData.int) = true
  | [] => rfl
  | n :: ns => by rw [List.map_cons, PyData.canLayAll0, lay_ints ns]; rfl
theorem depth_ints : ∀ ns : List Int, PyData.depthAll (ns.map PyData.int) = 0
  | [] => rfl
  | n :: ns => by rw [List.map_cons, PyData.depthAll, depth_ints ns]; rfl
theorem ne_scr {ns : List Int} {A : List O} : dNe (.scr (ns.map D.int)) (.lst []) A = .ok (.bl (!ns.isEmpty)) A := by
  have e : py A 64 (.scr (ns.map D.int)) = some (.list (ns.map PyData.int)) := by
    show (pys (py A 63) _).map _ = _
    rw [pys_ints]; rfl
  have e2 : py A 64 (.lst []) = some (.list []) := rfl
  have h : SeqAt.shaped (.list (ns.map PyData.int)) = true := by
    simp [SeqAt.shaped, PyData.canLay0, PyData.depth, lay_ints, depth_ints]
  show dNeD _ _ A = _
  unfold dNeD
  rw [e, e2]
  simp only [h]
  cases ns <;> rfl
/-- what a pool is -/
def Pl (n : Nat) (A : List O) : Prop := ∃ a b : Int, A[n]? = some (.lst [.int a, .int b])
theorem Pl.lt {n : Nat} {A : List O} (h : Pl n A) : n < A.length := by
  obtain ⟨a, b, h⟩ := h
  exact (List.getElem?_eq_some_iff.mp h).1
theorem Pl.push {n : Nat} {A : List O} {o : O} (h : Pl n A) : Pl n (A ++ [o]) := by
  obtain ⟨a, b, e⟩ := h
  exact ⟨a, b, by rw [List.getElem?_append_left (Pl.lt ⟨a, b, e⟩)]; exact e⟩
theorem Pl.set {n i : Nat} {A : List O} {o : O} (h : Pl n A) (hi : i ≠ n) : Pl n (A.set i o) := by
  obtain ⟨a, b, e⟩ := h
  exact ⟨a, b, by rw [List.getElem?_set_ne hi]; exact e⟩
theorem take_ok {n : Nat} {A : List O} {m : Int} (h : Pl n A) (h0 : 0 < m) (h1 : m < 2 ^ 62) :
    ∃ (d : Nat) (A' : List O), (d : Int) < m ∧ m_law_take [.ref n, .int m] A = .ok (.int d) A' ∧ Pl n A' ∧ Grow n A A' ∧ A'.length = A.length := by
  obtain ⟨a, b, h⟩ := h
  have hn : n < A.length := (List.getElem?_eq_some_iff.mp h).1
  have h2 : m < 18446744073709551616 := by omega
  have key : ∀ (z : Int), 0 ≤ z % m ∧ z % m < m := fun z => ⟨Int.emod_nonneg _ (by omega), Int.emod_lt_of_pos _ h0⟩
  by_cases ha : 0 < a
  · refine ⟨(a % m).toNat, A.set n (.lst [.int (a / m), .int b]), by have := key a; omega, ?_, ⟨_, _, set_at h⟩, Grow.set, by simp⟩
    have e : ((a % m).toNat : Int) = a % m := Int.toNat_of_nonneg (key a).1
    rw [e]
    simp [m_law_take, b_law_take, h, atI, ixN, ha, h0, h2, setIx]
  · refine ⟨((((b * 48271 + 11) % 2147483647) * ((b * 48271 + 11) % 2147483647) % 2147483629 / 64 % m)).toNat, A.set n (.lst [.int a, .int ((b * 48271 + 11) % 2147483647)]), by have := key (((b * 48271 + 11) % 2147483647) * ((b * 48271 + 11) % 2147483647) % 2147483629 / 64); omega, ?_, ⟨_, _, set_at h⟩, Grow.set, by simp⟩
    rw [Int.toNat_of_nonneg (key _).1]
    have hc : -18446744073709551616 < (b * 48271 + 11) % 2147483647 ∧ (b * 48271 + 11) % 2147483647 < 18446744073709551616 := by omega
    simp [m_law_take, b_law_take, h, atI, ixN, ha, h0, h2, setIx, hc, set_at h]
theorem pool_ok {ns : List Int} {k : Int} {A : List O} (hk0 : 0 ≤ k) (hk : k < 100000) :
    ∃ a b : Int, m_law_pool [.scr (ns.map D.int), .int k] A = .ok (.ref A.length) (A ++ [.lst [.int a, .int b]]) := by
  have hk2 : -18446744073709551616 < (k : Int) ∧ (k : Int) < 18446744073709551616 := by omega
  have hi : ∀ p q : Int, ∀ b : Prop, ∀ _ : Decidable b, ∃ z, atI [D.int p, D.int q] (if b then 1 else 0) = some (.int z) := fun p q b _ => by
    by_cases h : b
    · exact ⟨q, by rw [if_pos h]; rfl⟩
    · exact ⟨p, by rw [if_neg h]; rfl⟩
  have hb1 : ∀ b : Prop, ∀ _ : Decidable b, -18446744073709551616 < (if b then (1 : Int) else 0) := fun b _ => by split <;> decide
  have hb2 : ∀ b : Prop, ∀ _ : Decidable b, (if b then (1 : Int) else 0) < 18446744073709551616 := fun b _ => by split <;> decide
  by_cases he : ns = []
  · subst he
    have := ne_scr (ns := []) (A := A)
    simp only [List.map_nil] at this
    simp [m_law_pool, b_law_pool, this, atI, ixN, hk0]
  · have hp : (0 : Int) < ns.length := by have := List.length_pos_iff.mpr he; omega
    have h1 : 0 ≤ k % (ns.length : Int) := Int.emod_nonneg _ (by omega)
    have h2 : k % (ns.length : Int) < ns.length := Int.emod_lt_of_pos _ hp
    have h3 : ∃ z, atI (ns.map D.int) (k % (ns.length : Int)) = some (.int z) := by
      rw [atI_i h1 (by simpa using h2), List.getElem?_map]
      have h4 : (k % (ns.length : Int)).toNat < ns.length := by omega
      rw [List.getElem?_eq_getElem h4]
      exact ⟨_, rfl⟩
    obtain ⟨z, h3⟩ := h3
    have h5 : ns.isEmpty = false := by cases ns <;> simp_all
    have h6 : 0 < ns.length := by omega
    by_cases hq : (ns.length : Int) ≤ k
    · obtain ⟨w, hw⟩ := hi (z % 1000003) (z / 1000000000000000000) (1000000000000000000000000000000000000 ≤ z) inferInstance
      simp [m_law_pool, b_law_pool, ne_scr, h6, h5, h3, hq, hw, hb1, hb2]
    · simp [m_law_pool, b_law_pool, ne_scr, h6, h5, h3, hq, hb1, hb2]
end Mb
end
section
set_option Elab.async false
set_option linter.all false
set_option maxRecDepth 100000
set_option maxHeartbeats 4000000
namespace Mb
open PySem PySem.Spec L2 Vi
def rowOf (m i : Nat) : List Bool := (List.range m).map fun k => decide (i / 2 ^ (m - 1 - k) % 2 = 1)
def rowsOf (m : Nat) : List (List Bool) := (List.range (2 ^ m)).map (rowOf m)
def rowD (r : List Bool) : D := .tup (r.map D.bl)
@[simp] theorem rowOf_len {m i : Nat} : (rowOf m i).length = m := by simp [rowOf]
theorem rowsOf_len {m : Nat} {r : List Bool} (h : r ∈ rowsOf m) : r.length = m := by
  obtain ⟨i, _, rfl⟩ := List.mem_map.mp h
  exact rowOf_len
end Mb
end
section
set_option Elab.async false
set_option linter.all false
set_option maxRecDepth 100000
set_option maxHeartbeats 4000000
namespace Mb
open PySem PySem.Spec L2 Vi
@[simp] theorem so_0 : PySem.PyData.strOk (PySem.Str.ofString "yes") = true := by decide +kernel
@[simp] theorem so_1 : PySem.PyData.strOk (PySem.Str.ofString "no") = true := by decide +kernel
@[simp] theorem so_2 : PySem.PyData.strOk (PySem.Str.ofString "wish") = true := by decide +kernel
@[simp] theorem so_3 : PySem.PyData.strOk (PySem.Str.ofString "not") = true := by decide +kernel
@[simp] theorem so_4 : PySem.PyData.strOk (PySem.Str.ofString "and") = true := by decide +kernel
@[simp] theorem so_5 : PySem.PyData.strOk (PySem.Str.ofString "or") = true := by decide +kernel
@[simp] theorem so_6 : PySem.PyData.strOk (PySem.Str.ofString "cases") = true := by decide +kernel
@[simp] theorem ne_0_1 : (PySem.Str.ofString "yes" = PySem.Str.ofString "no") = False := eq_false (by decide +kernel)
@[simp] theorem ne_0_2 : (PySem.Str.ofString "yes" = PySem.Str.ofString "wish") = False := eq_false (by decide +kernel)
@[simp] theorem ne_0_3 : (PySem.Str.ofString "yes" = PySem.Str.ofString "not") = False := eq_false (by decide +kernel)
@[simp] theorem ne_0_4 : (PySem.Str.ofString "yes" = PySem.Str.ofString "and") = False := eq_false (by decide +kernel)
@[simp] theorem ne_0_5 : (PySem.Str.ofString "yes" = PySem.Str.ofString "or") = False := eq_false (by decide +kernel)
@[simp] theorem ne_0_6 : (PySem.Str.ofString "yes" = PySem.Str.ofString "cases") = False := eq_false (by decide +kernel)
@[simp] theorem ne_1_0 : (PySem.Str.ofString "no" = PySem.Str.ofString "yes") = False := eq_false (by decide +kernel)
@[simp] theorem ne_1_2 : (PySem.Str.ofString "no" = PySem.Str.ofString "wish") = False := eq_false (by decide +kernel)
@[simp] theorem ne_1_3 : (PySem.Str.ofString "no" = PySem.Str.ofString "not") = False := eq_false (by decide +kernel)
@[simp] theorem ne_1_4 : (PySem.Str.ofString "no" = PySem.Str.ofString "and") = False := eq_false (by decide +kernel)
@[simp] theorem ne_1_5 : (PySem.Str.ofString "no" = PySem.Str.ofString "or") = False := eq_false (by decide +kernel)
@[simp] theorem ne_1_6 : (PySem.Str.ofString "no" = PySem.Str.ofString "cases") = False := eq_false (by decide +kernel)
@[simp] theorem ne_2_0 : (PySem.Str.ofString "wish" = PySem.Str.ofString "yes") = False := eq_false (by decide +kernel)
@[simp] theorem ne_2_1 : (PySem.Str.ofString "wish" = PySem.Str.ofString "no") = False := eq_false (by decide +kernel)
@[simp] theorem ne_2_3 : (PySem.Str.ofString "wish" = PySem.Str.ofString "not") = False := eq_false (by decide +kernel)
@[simp] theorem ne_2_4 : (PySem.Str.ofString "wish" = PySem.Str.ofString "and") = False := eq_false (by decide +kernel)
@[simp] theorem ne_2_5 : (PySem.Str.ofString "wish" = PySem.Str.ofString "or") = False := eq_false (by decide +kernel)
@[simp] theorem ne_2_6 : (PySem.Str.ofString "wish" = PySem.Str.ofString "cases") = False := eq_false (by decide +kernel)
@[simp] theorem ne_3_0 : (PySem.Str.ofString "not" = PySem.Str.ofString "yes") = False := eq_false (by decide +kernel)
@[simp] theorem ne_3_1 : (PySem.Str.ofString "not" = PySem.Str.ofString "no") = False := eq_false (by decide +kernel)
@[simp] theorem ne_3_2 : (PySem.Str.ofString "not" = PySem.Str.ofString "wish") = False := eq_false (by decide +kernel)
@[simp] theorem ne_3_4 : (PySem.Str.ofString "not" = PySem.Str.ofString "and") = False := eq_false (by decide +kernel)
@[simp] theorem ne_3_5 : (PySem.Str.ofString "not" = PySem.Str.ofString "or") = False := eq_false (by decide +kernel)
@[simp] theorem ne_3_6 : (PySem.Str.ofString "not" = PySem.Str.ofString "cases") = False := eq_false (by decide +kernel)
@[simp] theorem ne_4_0 : (PySem.Str.ofString "and" = PySem.Str.ofString "yes") = False := eq_false (by decide +kernel)
@[simp] theorem ne_4_1 : (PySem.Str.ofString "and" = PySem.Str.ofString "no") = False := eq_false (by decide +kernel)
@[simp] theorem ne_4_2 : (PySem.Str.ofString "and" = PySem.Str.ofString "wish") = False := eq_false (by decide +kernel)
@[simp] theorem ne_4_3 : (PySem.Str.ofString "and" = PySem.Str.ofString "not") = False := eq_false (by decide +kernel)
@[simp] theorem ne_4_5 : (PySem.Str.ofString "and" = PySem.Str.ofString "or") = False := eq_false (by decide +kernel)
@[simp] theorem ne_4_6 : (PySem.Str.ofString "and" = PySem.Str.ofString "cases") = False := eq_false (by decide +kernel)
@[simp] theorem ne_5_0 : (PySem.Str.ofString "or" = PySem.Str.ofString "yes") = False := eq_false (by decide +kernel)
@[simp] theorem ne_5_1 : (PySem.Str.ofString "or" = PySem.Str.ofString "no") = False := eq_false (by decide +kernel)
@[simp] theorem ne_5_2 : (PySem.Str.ofString "or" = PySem.Str.ofString "wish") = False := eq_false (by decide +kernel)
@[simp] theorem ne_5_3 : (PySem.Str.ofString "or" = PySem.Str.ofString "not") = False := eq_false (by decide +kernel)
@[simp] theorem ne_5_4 : (PySem.Str.ofString "or" = PySem.Str.ofString "and") = False := eq_false (by decide +kernel)
@[simp] theorem ne_5_6 : (PySem.Str.ofString "or" = PySem.Str.ofString "cases") = False := eq_false (by decide +kernel)
@[simp] theorem ne_6_0 : (PySem.Str.ofString "cases" = PySem.Str.ofString "yes") = False := eq_false (by decide +kernel)
@[simp] theorem ne_6_1 : (PySem.Str.ofString "cases" = PySem.Str.ofString "no") = False := eq_false (by decide +kernel)
@[simp] theorem ne_6_2 : (PySem.Str.ofString "cases" = PySem.Str.ofString "wish") = False := eq_false (by decide +kernel)
@[simp] theorem ne_6_3 : (PySem.Str.ofString "cases" = PySem.Str.ofString "not") = False := eq_false (by decide +kernel)
@[simp] theorem ne_6_4 : (PySem.Str.ofString "cases" = PySem.Str.ofString "and") = False := eq_false (by decide +kernel)
@[simp] theorem ne_6_5 : (PySem.Str.ofString "cases" = PySem.Str.ofString "or") = False := eq_false (by decide +kernel)
/-- a decision of so many wishes, so deep at most, of so many parts at most -/
def Dec (m : Nat) : Nat → Nat → D → Prop
  | 0, _, _ => False
  | n + 1, s, d =>
    (1 ≤ s ∧ (d = .tup [.str "yes"] ∨ d = .tup [.str "no"] ∨ ∃ k : Nat, k < m ∧ d = .tup [.str "wish", .int k]))
    ∨ (∃ e t, d = .tup [.str "not", e] ∧ Dec m n t e ∧ t + 1 ≤ s)
    ∨ (∃ (w : Bool) (es : List D) (t : Nat), d = .tup [.str (if w then "and" else "or"), .tup es] ∧ es ≠ [] ∧ es.length ≤ 6 ∧ (∀ e ∈ es, Dec m n t e) ∧ es.length * t + 1 ≤ s)
    ∨ (∃ (ps : List (D × D)) (e : D) (t : Nat), d = .tup [.str "cases", .tup (ps.map fun p => .tup [p.1, p.2]), e] ∧ ps ≠ [] ∧ ps.length ≤ 4 ∧ (∀ p ∈ ps, Dec m n t p.1 ∧ Dec m n t p.2) ∧ Dec m n t e ∧ (2 * ps.length + 1) * t + 1 ≤ s)
theorem Dec.pos {m : Nat} : ∀ {n s : Nat} {d : D}, Dec m n s d → 1 ≤ s
  | n + 1, s, d, h => by
    rcases h with ⟨h, _⟩ | ⟨_, _, _, _, h⟩ | ⟨_, _, _, _, _, _, _, h⟩ | ⟨_, _, _, _, _, _, _, _, h⟩ <;> omega
theorem Dec.mono {m : Nat} : ∀ {n s : Nat} {d : D}, Dec m n s d → ∀ {n' s'}, n ≤ n' → s ≤ s' → Dec m n' s' d
  | n + 1, s, d, h, n', s', hn, hs => by
    obtain ⟨k, rfl⟩ : ∃ k, n' = k + 1 := ⟨n' - 1, by omega⟩
    rcases h with ⟨h, h2⟩ | ⟨e, t, h1, h2, h3⟩ | ⟨w, es, t, h1, h2, h3, h4, h5⟩ | ⟨ps, e, t, h1, h2, h3, h4, h5, h6⟩
    · exact .inl ⟨by omega, h2⟩
    · exact .inr (.inl ⟨e, t, h1, h2.mono (by omega) (Nat.le_refl _), by omega⟩)
    · exact .inr (.inr (.inl ⟨w, es, t, h1, h2, h3, fun e he => (h4 e he).mono (by omega) (Nat.le_refl _), by omega⟩))
    · exact .inr (.inr (.inr ⟨ps, e, t, h1, h2, h3, fun p hp => ⟨(h4 p hp).1.mono (by omega) (Nat.le_refl _), (h4 p hp).2.mono (by omega) (Nat.le_refl _)⟩, h5.mono (by omega) (Nat.le_refl _), by omega⟩))
theorem Dec.noR {m : Nat} : ∀ {n s : Nat} {d : D}, Dec m n s d → noR d = true
  | n + 1, s, d, h => by
    rcases h with ⟨h, h2 | h2 | ⟨k, hk, h2⟩⟩ | ⟨e, t, h1, h2, h3⟩ | ⟨w, es, t, h1, h2, h3, h4, h5⟩ | ⟨ps, e, t, h1, h2, h3, h4, h5, h6⟩
    · subst h2; simp
    · subst h2; simp
    · subst h2; simp
    · subst h1; simp [h2.noR]
    · subst h1
      simp only [noR_tup, List.all_cons, noR_str, List.all_nil, Bool.and_true, Bool.true_and, List.all_eq_true]
      exact fun e he => (h4 e he).noR
    · subst h1
      simp only [noR_tup, List.all_cons, noR_str, List.all_nil, Bool.and_true, Bool.true_and, List.all_eq_true, Bool.and_eq_true]
      refine ⟨fun x hx => ?_, h5.noR⟩
      obtain ⟨p, hp, rfl⟩ := List.mem_map.mp hx
      simp [(h4 p hp).1.noR, (h4 p hp).2.noR]
/-- the data behind a value: so deep, so long a text -/
def Nice (k L : Nat) (x : PyData) : Prop := x.canLay0 = true ∧ x.depth ≤ k ∧ x.showable = true ∧ x.hasDict = false ∧ x.shown.length ≤ L
def Pyd (k L : Nat) (d : D) : Prop := ∃ x, (∀ A j, k ≤ j → py A j d = some x) ∧ Nice k L x
def Pyl (k L : Nat) (ds : List D) : Prop := ∃ xs, (∀ A j, k ≤ j → pys (py A j) ds = some xs) ∧ PyData.canLayAll0 xs = true ∧ PyData.depthAll xs ≤ k ∧ PyData.showableAll xs = true ∧ PyData.hasDictAll xs = false ∧ piled (PyData.shownAll xs) ≤ L
section
variable {k L L1 L2 : Nat} {d : D} {ds : List D}
theorem Pyl.nil : Pyl k 0 [] := ⟨[], fun _ _ _ => rfl, rfl, Nat.zero_le _, rfl, rfl, Nat.le_refl _⟩
theorem Pyl.cons (h : Pyd k L1 d) (r : Pyl k L2 ds) : Pyl k (L1 + 2 + L2) (d :: ds) := by
  obtain ⟨x, e, a1, a2, a3, a4, a5⟩ := h
  obtain ⟨xs, f, b1, b2, b3, b4, b5⟩ := r
  refine ⟨x :: xs, fun A j hj => by rw [pys, e A j hj, f A j hj]; rfl, by simp [PyData.canLayAll0, a1, b1], by simp only [PyData.depthAll]; omega, by simp [PyData.showableAll, a3, b3], by simp [PyData.hasDictAll, a4, b4], ?_⟩
  rw [PyData.shownAll, piled_cons]
  omega
theorem Pyl.unif (h : ∀ d ∈ ds, Pyd k L d) : Pyl k (ds.length * (L + 2)) ds := by
  induction ds with
  | nil => simpa using Pyl.nil
  | cons d ds ih =>
    have := Pyl.cons (h d (List.mem_cons_self ..)) (ih fun e he => h e (List.mem_cons_of_mem _ he))
    rw [List.length_cons, Nat.succ_mul, Nat.add_comm]
    exact this
theorem tupleText_len (ts : List Str) : (tupleText ts).length ≤ piled ts + 3 := by
  have h1 : (("(" : String) : Str).length = 1 := rfl
  have h2 : ∀ b : Bool, (((if b then ",)" else ")") : String) : Str).length ≤ 2 := by decide +kernel
  have h3 := h2 (ts.length == 1)
  have h4 : (Str.join ", " ts).length ≤ piled ts := by
    cases ts with
    | nil => exact Nat.le_refl 0
    | cons t r => have := join_length_add (t :: r) (by simp); omega
  unfold tupleText
  rw [strLen_append, strLen_append, h1]
  omega
theorem Pyd.tup (r : Pyl k L ds) : Pyd (k + 1) (L + 3) (.tup ds) := by
  obtain ⟨xs, f, b1, b2, b3, b4, b5⟩ := r
  refine ⟨.tuple xs, fun A j hj => ?_, by simpa [PyData.canLay0] using b1, by simp only [PyData.depth]; omega, by simpa [PyData.showable] using b3, by simpa [PyData.hasDict] using b4, ?_⟩
  · obtain ⟨i, rfl⟩ : ∃ i, j = i + 1 := ⟨j - 1, by omega⟩
    show (pys (py A i) ds).map _ = _
    rw [f A i (by omega)]; rfl
  · rw [PyData.shown]
    have := tupleText_len (PyData.shownAll xs)
    omega
theorem Pyd.str {s : Str} (h : PyData.strOk s = true) (hl : (reprText s).length ≤ L) : Pyd k L (.str s) := ⟨.str s, fun _ j _ => by cases j <;> rfl, by simpa [PyData.canLay0] using h, Nat.zero_le _, rfl, rfl, by rw [PyData.shown]; exact hl⟩
theorem Pyd.mono {k' L' : Nat} (h : Pyd k L d) (hk : k ≤ k') (hL : L ≤ L') : Pyd k' L' d := by
  obtain ⟨x, e, a1, a2, a3, a4, a5⟩ := h
  exact ⟨x, fun A j hj => e A j (by omega), a1, by omega, a3, a4, by omega⟩
end
theorem digit_len : ∀ k : Fin 10, (PyData.shown (.int ((k : Nat) : Int))).length ≤ 3 ∧ PyData.showable (.int ((k : Nat) : Int)) = true := by decide +kernel
theorem Pyd.dig {k i : Nat} (h : i < 10) : Pyd k 3 (.int i) := ⟨.int i, fun _ j _ => by cases j <;> rfl, rfl, Nat.zero_le _, (digit_len ⟨i, h⟩).2, rfl, (digit_len ⟨i, h⟩).1⟩
theorem Pyd.w0 {k : Nat} : Pyd k 5 (.str (Str.ofString "yes")) := Pyd.str (by decide +kernel) (by decide +kernel)
theorem Pyd.w1 {k : Nat} : Pyd k 4 (.str (Str.ofString "no")) := Pyd.str (by decide +kernel) (by decide +kernel)
theorem Pyd.w2 {k : Nat} : Pyd k 6 (.str (Str.ofString "wish")) := Pyd.str (by decide +kernel) (by decide +kernel)
theorem Pyd.w3 {k : Nat} : Pyd k 5 (.str (Str.ofString "not")) := Pyd.str (by decide +kernel) (by decide +kernel)
theorem Pyd.w4 {k : Nat} : Pyd k 5 (.str (Str.ofString "and")) := Pyd.str (by decide +kernel) (by decide +kernel)
theorem Pyd.w5 {k : Nat} : Pyd k 4 (.str (Str.ofString "or")) := Pyd.str (by decide +kernel) (by decide +kernel)
theorem Pyd.w6 {k : Nat} : Pyd k 7 (.str (Str.ofString "cases")) := Pyd.str (by decide +kernel) (by decide +kernel)
theorem Dec.py {m : Nat} (hm : m ≤ 10) : ∀ {n s : Nat} {d : D}, Dec m n s d → Pyd (3 * n) (64 * s) d
  | n + 1, s, d, h => by
    have e3 : 3 * (n + 1) = 3 * n + 1 + 1 + 1 := by omega
    rcases h with ⟨h, h2 | h2 | ⟨k, hk, h2⟩⟩ | ⟨e, t, h1, h2, h3⟩ | ⟨w, es, t, h1, h2, h3, h4, h5⟩ | ⟨ps, e, t, h1, h2, h3, h4, h5, h6⟩
    · subst h2
      exact (Pyd.tup (.cons (Pyd.w0 (k := 0)) .nil)).mono (by omega) (by omega)
    · subst h2
      exact (Pyd.tup (.cons (Pyd.w1 (k := 0)) .nil)).mono (by omega) (by omega)
    · subst h2
      exact (Pyd.tup (.cons (Pyd.w2 (k := 0)) (.cons (.dig (by omega)) .nil))).mono (by omega) (by omega)
    · subst h1
      exact (Pyd.tup (.cons Pyd.w3 (.cons (h2.py hm) .nil))).mono (by omega) (by omega)
    · subst h1
      have hw : Pyd (3 * n + 1) 5 (.str (if w then "and" else "or")) := by
        cases w
        · exact Pyd.w5.mono (Nat.le_refl _) (by decide)
        · exact Pyd.w4
      refine (Pyd.tup (.cons hw (.cons (Pyd.tup (Pyl.unif fun e he => (h4 e he).py hm)) .nil))).mono (by omega) ?_
      have : es.length * (64 * t + 2) = 64 * (es.length * t) + 2 * es.length := by rw [Nat.mul_add, Nat.mul_left_comm, Nat.mul_comm es.length 2]
      omega
    · subst h1
      have hps : Pyl (3 * n + 1) ((ps.map fun p => D.tup [p.1, p.2]).length * (128 * t + 7 + 2)) (ps.map fun p => D.tup [p.1, p.2]) := Pyl.unif fun e he => by
        obtain ⟨p, hp, rfl⟩ := List.mem_map.mp he
        exact (Pyd.tup (.cons ((h4 p hp).1.py hm) (.cons ((h4 p hp).2.py hm) .nil))).mono (Nat.le_refl _) (by omega)
      rw [List.length_map] at hps
      refine (Pyd.tup (.cons Pyd.w6 (.cons (Pyd.tup hps) (.cons ((h5.py hm).mono (by omega) (Nat.le_refl _)) .nil)))).mono (by omega) ?_
      have : ps.length * (128 * t + 7 + 2) = 128 * (ps.length * t) + 9 * ps.length := by rw [Nat.add_assoc, Nat.mul_add, Nat.mul_left_comm, Nat.mul_comm ps.length (7 + 2)]
      have e5 : (2 * ps.length + 1) * t = 2 * (ps.length * t) + t := by rw [Nat.add_mul, Nat.mul_assoc, Nat.one_mul]
      omega
end Mb
end
section
set_option Elab.async false
set_option linter.all false
set_option maxRecDepth 100000
set_option maxHeartbeats 4000000
namespace Mb
open PySem PySem.Spec L2 Vi
/-- what both walks come to -/
def Ans (n : Nat) (r : List Bool) (d : D) (b : Bool) : Prop :=
  (∀ f A, 2 * n ≤ f → m_answer f [d, rowD r] A = .ok (.bl b) A) ∧ (∀ f A, n ≤ f → m_law_answer f [d, rowD r] A = .ok (.bl b) A)
theorem answer_s (f : Nat) : m_answer (f + 1) = runB 4 (b_answer (m_answer_cases f) (m_answer f)) := rfl
theorem answer_cases_s (f : Nat) : m_answer_cases (f + 1) = runB 4 (b_answer_cases (m_answer_cases f) (m_answer f)) := rfl
theorem law_answer_s (f : Nat) : m_law_answer (f + 1) = runB 5 (b_law_answer (m_law_answer f)) := rfl
theorem row_at {r : List Bool} {k : Nat} (h : k < r.length) : atI (r.map D.bl) (k : Int) = some (.bl r[k]) := by
  apply atI_at
  rw [List.getElem?_map, List.getElem?_eq_getElem h]; rfl
theorem Pyd.eqs {k L : Nat} {d : D} (h : Pyd k L d) : ∃ x, (∀ A j, k ≤ j → py A j d = some x) ∧ x.canLay0 = true ∧ x.depth ≤ k := by
  obtain ⟨x, h1, h2, h3, _⟩ := h
  exact ⟨x, h1, h2, h3⟩
theorem Pyl.ofmem {k L : Nat} {ds : List D} (h : ∀ d ∈ ds, Pyd k L d) : ∃ xs, (∀ A j, k ≤ j → pys (py A j) ds = some xs) ∧ PyData.canLayAll0 xs = true ∧ PyData.depthAll xs ≤ k ∧ xs.isEmpty = ds.isEmpty := by
  obtain ⟨xs, h1, h2, h3, _⟩ := Pyl.unif h
  refine ⟨xs, h1, h2, h3, ?_⟩
  have := h1 [] k (Nat.le_refl _)
  cases ds with
  | nil => cases this; rfl
  | cons d ds =>
    rw [pys] at this
    obtain ⟨y, _, hy⟩ := Option.bind_eq_some_iff.mp this
    obtain ⟨ys, _, rfl⟩ := Option.map_eq_some_iff.mp hy
    rfl
theorem eq_lnil {k L : Nat} {ds : List D} {A : List O} (hk : k < 64) (h : ∀ d ∈ ds, Pyd k L d) : dEq (.lst ds) (.lst []) A = .ok (.bl ds.isEmpty) A ∧ dNe (.lst ds) (.lst []) A = .ok (.bl (!ds.isEmpty)) A := by
  obtain ⟨xs, h1, h2, h3, h4⟩ := Pyl.ofmem h
  have e : py A 64 (.lst ds) = some (.list xs) := by
    show (pys (py A 63) ds).map _ = _
    rw [h1 A 63 (by omega)]; rfl
  have e2 : py A 64 (.lst []) = some (.list []) := rfl
  have hs : SeqAt.shaped (.list xs) = true := by
    simp [SeqAt.shaped, PyData.canLay0, PyData.depth, h2]
    omega
  show dEqD _ _ A = _ ∧ dNeD _ _ A = _
  unfold dEqD dNeD
  rw [e, e2]
  simp only [hs, ← h4]
  cases xs <;> exact ⟨rfl, rfl⟩
set_option maxHeartbeats 8000000 in
theorem ans_ok {m : Nat} (hm : m ≤ 10) {r : List Bool} (hr : r.length = m) : ∀ {n s : Nat} {d : D}, n ≤ 20 → Dec m n s d → ∃ b, Ans n r d b
  | n + 1, s, d, hn, h => by
    have fs : ∀ {f : Nat}, 2 * (n + 1) ≤ f → ∃ g, f = g + 2 ∧ 2 * n ≤ g := fun {f} h => ⟨f - 2, by omega, by omega⟩
    have gs : ∀ {f : Nat}, n + 1 ≤ f → ∃ g, f = g + 1 ∧ n ≤ g := fun {f} h => ⟨f - 1, by omega, by omega⟩
    rcases h with ⟨h, h2 | h2 | ⟨k, hk, h2⟩⟩ | ⟨e, t, h1, h2, h3⟩ | ⟨w, es, t, h1, h2, h3, h4, h5⟩ | ⟨ps, e, t, h1, h2, h3, h4, h5, h6⟩
    · subst h2
      refine ⟨true, fun f A hf => ?_, fun f A hf => ?_⟩
      · obtain ⟨f, rfl, hf⟩ := fs hf
        rw [answer_s]
        simp [b_answer, rowD]
      · obtain ⟨f, rfl, hf⟩ := gs hf
        rw [law_answer_s]
        simp [b_law_answer, rowD]
    · subst h2
      refine ⟨false, fun f A hf => ?_, fun f A hf => ?_⟩
      · obtain ⟨f, rfl, hf⟩ := fs hf
        rw [answer_s]
        simp [b_answer, rowD]
      · obtain ⟨f, rfl, hf⟩ := gs hf
        rw [law_answer_s]
        simp [b_law_answer, rowD]
    · subst h2
      have := row_at (hr.symm ▸ hk)
      refine ⟨r[k], fun f A hf => ?_, fun f A hf => ?_⟩
      · obtain ⟨f, rfl, hf⟩ := fs hf
        rw [answer_s]
        simp [b_answer, rowD, this]
      · obtain ⟨f, rfl, hf⟩ := gs hf
        rw [law_answer_s]
        simp [b_law_answer, rowD, this]
    · subst h1
      obtain ⟨b, ih1, ih2⟩ := ans_ok hm hr (by omega) h2
      unfold rowD at ih1 ih2
      refine ⟨!b, fun f A hf => ?_, fun f A hf => ?_⟩
      · obtain ⟨f, rfl, hf⟩ := fs hf
        rw [answer_s]
        simp [b_answer, rowD, ih1 (f + 1) A (by omega)]
      · obtain ⟨f, rfl, hf⟩ := gs hf
        rw [law_answer_s]
        simp [b_law_answer, rowD, ih2 f A (by omega)]
    · subst h1
      obtain ⟨g, hg⟩ := pick (P := fun e b => Ans n r e b) fun e (he : e ∈ es) => ans_ok hm hr (by omega) (h4 e he)
      have hl : es.length ≤ 16777216 := by omega
      have el : es.length < 16777216 := by omega
      have hp : ∀ e ∈ es, Pyd (3 * n) (64 * t) e := fun e he => (h4 e he).py hm
      have L1 : ∀ (c : Option D) f A, 2 * n ≤ f → lcD (fun _ => True) (tgN 3) mYes (mCall (m_answer f) [] (mArgs (mVar 3) (mArgs (mVar 1) mArgs0))) [c, some (.tup (r.map D.bl)), none, none] es [] A = .ok ((es.map g).map D.bl) A := fun c f A hf => by
        rw [lcD_map (fun e => .bl (g e)) trivial hl fun e he => ?_]
        · simp
        have := (hg e he).1 f A hf
        unfold rowD at this
        exact ⟨_, tgN_e, by simp [this]⟩
      have L2 : ∀ (c : Option D) f A, n ≤ f → lcD (fun _ => True) (tgN 4) (mTru (mCall (m_law_answer f) [] (mArgs (mVar 4) (mArgs (mVar 1) mArgs0)))) (mVar 4) [c, some (.tup (r.map D.bl)), none, none, none] es [] A = .ok (es.filter g) A := fun c f A hf => by
        rw [lcD_pure g (fun e => e) trivial (by simpa using hl) fun e he => ?_]
        · simp
        have := (hg e he).2 f A hf
        unfold rowD at this
        exact ⟨_, tgN_e, by simp [this], fun _ => by simp⟩
      have L3 : ∀ (c : Option D) f A, n ≤ f → lcD (fun _ => True) (tgN 4) (mNotT (mTru (mCall (m_law_answer f) [] (mArgs (mVar 4) (mArgs (mVar 1) mArgs0))))) (mVar 4) [c, some (.tup (r.map D.bl)), none, none, none] es [] A = .ok (es.filter fun e => !g e) A := fun c f A hf => by
        rw [lcD_pure (fun e => !g e) (fun e => e) trivial (by simpa using hl) fun e he => ?_]
        · simp
        have := (hg e he).2 f A hf
        unfold rowD at this
        exact ⟨_, tgN_e, by simp [this], fun _ => by simp⟩
      have F1 : (es.filter g).length < 16777216 := Nat.lt_of_le_of_lt (List.length_filter_le ..) el
      have F2 : (es.filter fun e => !g e).length < 16777216 := Nat.lt_of_le_of_lt (List.length_filter_le ..) el
      have E1 := fun A => (eq_lnil (ds := es.filter g) (A := A) (by omega) fun e he => hp e (List.mem_filter.mp he).1).2
      have E2 := fun A => (eq_lnil (ds := es.filter fun e => !g e) (A := A) (by omega) fun e he => hp e (List.mem_filter.mp he).1).1
      have B1 : (!(es.filter g).isEmpty) = es.any g := by
        rw [Bool.eq_iff_iff]; simp
      have B2 : (es.filter fun e => !g e).isEmpty = es.all g := by
        rw [Bool.eq_iff_iff]; simp
      rw [B1] at E1
      rw [B2] at E2
      cases w
      · refine ⟨es.any g, fun f A hf => ?_, fun f A hf => ?_⟩
        · obtain ⟨f, rfl, hf⟩ := fs hf
          rw [answer_s]
          simp [b_answer, rowD, wipeD, L1 _ (f + 1) A (by omega), el, -List.map_map]
        · obtain ⟨f, rfl, hf'⟩ := gs hf
          rw [law_answer_s]
          simp [b_law_answer, rowD, wipeD, L2 _ f A hf', F1, E1]
      · refine ⟨es.all g, fun f A hf => ?_, fun f A hf => ?_⟩
        · obtain ⟨f, rfl, hf⟩ := fs hf
          rw [answer_s]
          simp [b_answer, rowD, wipeD, L1 _ (f + 1) A (by omega), el, -List.map_map]
        · obtain ⟨f, rfl, hf'⟩ := gs hf
          rw [law_answer_s]
          simp [b_law_answer, rowD, wipeD, L3 _ f A hf', F2, E2]
    · subst h1
      obtain ⟨g, hg⟩ := pick (Q := fun e => Dec m n t e) (P := fun e b => Ans n r e b) fun e he => ans_ok hm hr (by omega) he
      have ee := hg e h5
      unfold Ans rowD at ee
      have LP : ∀ f A, 2 * n ≤ f → ∀ (ps : List (D × D)), (∀ p ∈ ps, Dec m n t p.1 ∧ Dec m n t p.2) → ∀ (c x y : Option D), ∃ x' y', forD (fun _ => True) (tgT 2 (tgsCons (tgN 2) (tgsCons (tgN 3) tgsNil))) (sIf (mTru (mCall (m_answer f) [] (mArgs (mVar 2) (mArgs (mVar 1) mArgs0)))) (sRet (mCall (m_answer f) [] (mArgs (mVar 3) (mArgs (mVar 1) mArgs0)))) sPass) (ps.map fun p => .tup [p.1, p.2]) [c, some (.tup (r.map D.bl)), x, y] A = (match ps.find? (fun p => g p.1) with | some p => .ok (.rt (.bl (g p.2))) A | none => .ok (.nx [c, some (.tup (r.map D.bl)), x', y']) A) := fun f A hf ps => by
        induction ps with
        | nil => intro _ c x y; exact ⟨x, y, by simp [forD]⟩
        | cons p ps ih =>
          intro hps c x y
          obtain ⟨d1, d2⟩ := hps p (List.mem_cons_self ..)
          have a1 := (hg _ d1).1 f A hf
          have a2 := (hg _ d2).1 f A hf
          unfold rowD at a1 a2
          obtain ⟨x', y', e'⟩ := ih (fun q hq => hps q (List.mem_cons_of_mem _ hq)) c (some p.1) (some p.2)
          refine ⟨x', y', ?_⟩
          rw [List.map_cons, forD, if_pos trivial]
          cases hb : g p.1 with
          | true => simp [a1, a2, hb]
          | false => simp [a1, hb, e']
      have LL : ∀ f A, n ≤ f → ∀ (ps : List (D × D)), (∀ p ∈ ps, Dec m n t p.1 ∧ Dec m n t p.2) → ∀ (c x y z : Option D), ∃ x' y', forD (fun _ => True) (tgT 2 (tgsCons (tgN 2) (tgsCons (tgN 3) tgsNil))) (sIf (mTru (mCall (m_law_answer f) [] (mArgs (mVar 2) (mArgs (mVar 1) mArgs0)))) (sRet (mCall (m_law_answer f) [] (mArgs (mVar 3) (mArgs (mVar 1) mArgs0)))) sPass) (ps.map fun p => .tup [p.1, p.2]) [c, some (.tup (r.map D.bl)), x, y, z] A = (match ps.find? (fun p => g p.1) with | some p => .ok (.rt (.bl (g p.2))) A | none => .ok (.nx [c, some (.tup (r.map D.bl)), x', y', z]) A) := fun f A hf ps => by
        induction ps with
        | nil => intro _ c x y z; exact ⟨x, y, by simp [forD]⟩
        | cons p ps ih =>
          intro hps c x y z
          obtain ⟨d1, d2⟩ := hps p (List.mem_cons_self ..)
          have a1 := (hg _ d1).2 f A hf
          have a2 := (hg _ d2).2 f A hf
          unfold rowD at a1 a2
          obtain ⟨x', y', e'⟩ := ih (fun q hq => hps q (List.mem_cons_of_mem _ hq)) c (some p.1) (some p.2) z
          refine ⟨x', y', ?_⟩
          rw [List.map_cons, forD, if_pos trivial]
          cases hb : g p.1 with
          | true => simp [a1, a2, hb]
          | false => simp [a1, hb, e']
      refine ⟨match ps.find? (fun p => g p.1) with | some p => g p.2 | none => g e, fun f A hf => ?_, fun f A hf => ?_⟩
      · obtain ⟨f, rfl, hf'⟩ := fs hf
        rw [answer_s]
        obtain ⟨x', y', e'⟩ := LP f A hf' ps h4 (some (.tup [.str "cases", .tup (ps.map fun p => .tup [p.1, p.2]), e])) none none
        have ec := ee.1 f A hf'
        cases hfd : ps.find? (fun p => g p.1) <;> rw [hfd] at e' <;> simp [b_answer, rowD, answer_cases_s, b_answer_cases, e', ec]
      · obtain ⟨f, rfl, hf'⟩ := gs hf
        rw [law_answer_s]
        obtain ⟨x', y', e'⟩ := LL f A hf' ps h4 (some (.tup [.str "cases", .tup (ps.map fun p => .tup [p.1, p.2]), e])) none none none
        have ec := ee.2 f A hf'
        cases hfd : ps.find? (fun p => g p.1) <;> rw [hfd] at e' <;> simp [b_law_answer, rowD, e', ec]
end Mb
end
section
set_option Elab.async false
set_option linter.all false
set_option maxRecDepth 100000
set_option maxHeartbeats 4000000
namespace Vi
open PySem PySem.Spec L2
theorem forD_cnt {ok : List O → Prop} {tg : TgM} {body : SM} (I : Nat → Env → List O → Prop) (hok : ∀ i σ A, I i σ A → ok A) :
    ∀ {ds : List D} {σ : Env} {A : List O} {k : Nat}, I k σ A →
    (∀ i d, ds[i]? = some d → ∀ σ A, I (k + i) σ A → ∃ σ1 A1 σ2 A2, tg d σ A = .ok σ1 A1 ∧ (body σ1 A1 = .ok (.nx σ2) A2 ∨ body σ1 A1 = .ok (.ct σ2) A2) ∧ I (k + i + 1) σ2 A2) →
    ∃ σ' A', forD ok tg body ds σ A = .ok (.nx σ') A' ∧ I (k + ds.length) σ' A'
  | [], σ, A, k, hI, _ => ⟨σ, A, by rw [forD, if_pos (hok _ _ _ hI)], hI⟩
  | d :: ds, σ, A, k, hI, hs => by
    obtain ⟨σ1, A1, σ2, A2, e1, e2, hI2⟩ := hs 0 d rfl σ A hI
    obtain ⟨σ3, A3, e3, hI3⟩ := forD_cnt (k := k + 1) I hok hI2 fun i d' h' σ A hI => by
      have := hs (i + 1) d' h' σ A (by rw [show k + (i + 1) = k + 1 + i by omega]; exact hI)
      rwa [show k + (i + 1) + 1 = k + 1 + i + 1 by omega] at this
    refine ⟨σ3, A3, ?_, by rw [List.length_cons, show k + (ds.length + 1) = k + 1 + ds.length by omega]; exact hI3⟩
    rw [forD, if_pos (hok _ _ _ hI), e1]
    rcases e2 with e2 | e2 <;> simp only [e2, e3]
end Vi
namespace Vi
open PySem PySem.Spec L2
theorem fAppend_e {l : Nat} {A : List O} {ds : List D} {y : D} (h : A[l]? = some (.lst ds)) (hl : ds.length < 16777216) : fAppend (.ref l) [y] A = .ok .non (A.set l (.lst (ds ++ [y]))) := by
  unfold fAppend
  simp only [ourL_r, h]
  rw [sizeLine_eq, if_pos hl]
theorem Grow.old {n l : Nat} {A B : List O} (h : Grow n A B) {o : O} (e : A[l]? = some o) (hn : l ≠ n) : B[l]? = some o := by
  rw [h.2 l (List.getElem?_eq_some_iff.mp e).1 hn]; exact e
end Vi
namespace Mb
open PySem PySem.Spec L2 Vi
theorem take_i {n : Nat} {A : List O} (h : Pl n A) {m : Int} (h0 : 0 < m) (h1 : m < 4611686018427387904) :
    ∃ (d : Int) (A' : List O), 0 ≤ d ∧ d < m ∧ m_law_take [.ref n, .int m] A = .ok (.int d) A' ∧ Pl n A' ∧ Grow n A A' := by
  obtain ⟨d, A', h2, h3, h4, h5, _⟩ := take_ok h h0 h1
  exact ⟨d, A', Int.natCast_nonneg _, h2, h3, h4, h5⟩
/-- the pool at n alone has changed -/
structure Ps (n : Nat) (A A' : List O) : Prop where
  pl : Pl n A'
  gr : Grow n A A'
  len : A'.length = A.length
theorem Ps.refl {n : Nat} {A : List O} (h : Pl n A) : Ps n A A := ⟨h, .rfl, rfl⟩
theorem Ps.trans {n : Nat} {A B C : List O} (h : Ps n A B) (k : Ps n B C) : Ps n A C := ⟨k.pl, h.gr.trans k.gr, k.len.trans h.len⟩
@[simp] theorem Ps.trim {n : Nat} {A A' : List O} (h : Ps n A A') {d : D} : trimR A (.ok d A') = .ok d A' := trimR_len h.len
theorem take_p {n : Nat} {A : List O} (h : Pl n A) {m : Int} (h0 : 0 < m) (h1 : m < 4611686018427387904) :
    ∃ (d : Int) (A' : List O), 0 ≤ d ∧ d < m ∧ m_law_take [.ref n, .int m] A = .ok (.int d) A' ∧ Ps n A A' := by
  obtain ⟨d, A', h2, h3, h4, h5, h6⟩ := take_ok h h0 h1
  exact ⟨d, A', Int.natCast_nonneg _, h2, h3, ⟨h4, h5, h6⟩⟩
theorem trimR_grow {n : Nat} {A A' : List O} {d : D} (P0 : Pl n A) (P : Pl n A') (G : Grow n A A') (h : noR d = true) : trimR A (.ok d A') = .ok d (A'.take A.length) ∧ Pl n (A'.take A.length) ∧ Grow n A (A'.take A.length) ∧ (A'.take A.length).length = A.length := by
  have hn := P0.lt
  obtain ⟨a, b, e⟩ := P
  have hl : (A'.take A.length).length = A.length := by rw [List.length_take]; have := G.1; omega
  have e2 : (A'.take A.length)[n]? = some (.lst [.int a, .int b]) := by rw [List.getElem?_take_of_lt hn]; exact e
  refine ⟨trimR_of ⟨G.1, h, fun i hi => ?_⟩, ⟨a, b, e2⟩, ⟨by omega, fun i hi hne => ?_⟩, hl⟩
  · by_cases hne : i = n
    · subst hne; exact .inr ⟨_, e, by simp⟩
    · exact .inl (G.2 i hi hne)
  · rw [List.getElem?_take_of_lt hi]; exact G.2 i hi hne
set_option maxHeartbeats 8000000 in
theorem decision_ok {m : Int} (h1 : 1 ≤ m) (hm : m ≤ 10) {n : Nat} : ∀ (f : Nat) {g : Nat} {room deep : Int} {A : List O}, Pl n A → 1 ≤ room → room < 100000 → 1 ≤ f → deep ≤ f → 1 ≤ g → deep ≤ g →
    ∃ d A', m_law_decision f [.ref n, .int m, .int room, .int deep] A = .ok d A' ∧ Dec m.toNat g room.toNat d ∧ Pl n A' ∧ Grow n A A' ∧ A'.length = A.length := by
  intro f
  induction f with
  | zero => intro g room deep A _ _ _ h; exact absurd h (by decide)
  | succ f ih =>
    intro g room deep A hP hr1 hr2 _ hd hg1 hg2
    obtain ⟨g, rfl⟩ : ∃ z, g = z + 1 := ⟨g - 1, by omega⟩
    have wish : ∀ k : Int, 0 ≤ k → k < m → Dec m.toNat (g + 1) room.toNat (.tup [.str "wish", .int k]) := fun k h0 hk => .inl ⟨by omega, .inr (.inr ⟨k.toNat, by omega, by rw [Int.toNat_of_nonneg h0]⟩)⟩
    obtain ⟨way, A1, w0, w1, e1, P1, G1⟩ := take_i hP (m := 9) (by decide) (by decide)
    suffices raw : ∃ d A', endB (b_law_decision (m_law_decision f) [some (.ref n), some (.int m), some (.int room), some (.int deep), none, none, none, none, none, none, none] A) = .ok d A' ∧ Dec m.toNat (g + 1) room.toNat d ∧ Pl n A' ∧ Grow n A A' by
      obtain ⟨d, A', e, D1, P1, G1⟩ := raw
      obtain ⟨t1, t2, t3, t4⟩ := trimR_grow hP P1 G1 D1.noR
      refine ⟨d, A'.take A.length, ?_, D1, t2, t3, t4⟩
      rw [show m_law_decision (f + 1) = runB 11 (b_law_decision (m_law_decision f)) from rfl, ← t1, ← e]
      rfl
    by_cases hleaf : room < 3 ∨ deep < 2 ∨ way = 0
    · obtain ⟨q, A2, q0, q1, e2, P2, G2⟩ := take_i P1 (m := 9) (by decide) (by decide)
      by_cases hq : q = 0
      · subst hq
        obtain ⟨z, A3, z0, z1, e3, P3, G3⟩ := take_i P2 (m := 2) (by decide) (by decide)
        rcases (by omega : z = 0 ∨ z = 1) with rfl | rfl
        · refine ⟨.tup [.str "yes"], A3, ?_, .inl ⟨by omega, .inl rfl⟩, P3, G1.trans (G2.trans G3)⟩
          rcases hleaf with h | h | h <;> simp [b_law_decision, e1, e2, e3, h]
        · refine ⟨.tup [.str "no"], A3, ?_, .inl ⟨by omega, .inr (.inl rfl)⟩, P3, G1.trans (G2.trans G3)⟩
          rcases hleaf with h | h | h <;> simp [b_law_decision, e1, e2, e3, h]
      · obtain ⟨z, A3, z0, z1, e3, P3, G3⟩ := take_i P2 (m := m) (by omega) (by omega)
        refine ⟨.tup [.str "wish", .int z], A3, ?_, wish z z0 z1, P3, G1.trans (G2.trans G3)⟩
        rcases hleaf with h | h | h <;> simp [b_law_decision, e1, e2, e3, h, hq]
    · have hl1 : ¬ room < 3 := fun h => hleaf (.inl h)
      have hl2 : ¬ deep < 2 := fun h => hleaf (.inr (.inl h))
      have hl3 : ¬ way = 0 := fun h => hleaf (.inr (.inr h))
      by_cases hw3 : way < 3
      · obtain ⟨e, A2, e2, d2, P2, G2, _⟩ := ih (g := g) (room := room - 1) (deep := deep - 1) P1 (by omega) (by omega) (by omega) (by omega) (by omega) (by omega)
        refine ⟨.tup [.str "not", e], A2, ?_, .inr (.inl ⟨e, _, rfl, d2, by omega⟩), P2, G1.trans G2⟩
        simp [b_law_decision, e1, e2, hl1, hl2, hl3, hw3]
      by_cases hw7 : way < 7
      · have hq0 : 0 < (if room - 1 < 6 then room - 1 else 6) := by split <;> omega
        have hq1 : (if room - 1 < 6 then room - 1 else 6) ≤ 6 := by split <;> omega
        have hq2 : (if room - 1 < 6 then room - 1 else 6) ≤ room - 1 := by split <;> omega
        have em : ∀ A, fMin2 [.int 6, .int (room - 1)] A = .ok (.int (if room - 1 < 6 then room - 1 else 6)) A := fun _ => rfl
        revert em hq0 hq1 hq2
        generalize (if room - 1 < 6 then room - 1 else 6) = q
        intro hq0 hq1 hq2 em
        obtain ⟨z, A2, z0, z1, e2, P2, G2⟩ := take_i P1 (m := q) hq0 (by omega)
        have hs0 : 0 < 1 + z := by omega
        have hs1 : 1 + z ≤ 6 := by omega
        have hs2 : 1 + z ≤ room - 1 := by omega
        have hdiv : 1 ≤ (room - 1) / (1 + z) := (Int.le_ediv_iff_mul_le hs0).mpr (by omega)
        have hdiv2 : (1 + z) * ((room - 1) / (1 + z)) ≤ room - 1 := Int.mul_ediv_self_le (by omega)
        have hdiv3 : (room - 1) / (1 + z) ≤ room - 1 := Int.ediv_le_self _ (by omega)
        have hlen : (rng 0 (1 + z).toNat).length = (1 + z).toNat := rng_len
        obtain ⟨ys, A3, e3, ⟨P3, G3⟩, h3, l3⟩ := lcD_st (ok := fun _ => True) (tg := tgN 8) (me := mCall (m_law_decision f) [] (mArgs (mVar 0) (mArgs (mVar 1) (mArgs (m2 dFdiv (m2 dSub (mVar 2) (mC (.int 1))) (mVar 5)) (mArgs (m2 dSub (mVar 3) (mC (.int 1))) mArgs0))))) (σ := [some (.ref n), some (.int m), some (.int room), some (.int deep), some (.int way), some (.int (1 + z)), none, none, none, none, none]) (fun A' => Pl n A' ∧ Grow n A2 A') (Dec m.toNat g ((room - 1) / (1 + z)).toNat) (fun _ _ => trivial) (ds := rng 0 (1 + z).toNat) (acc := []) (A := A2) (by simp; omega) ⟨P2, .rfl⟩ (fun _ h => nomatch h) fun d hd A' hA' => by
          obtain ⟨y, A4, e4, d4, P4, G4, _⟩ := ih (g := g) (room := (room - 1) / (1 + z)) (deep := deep - 1) hA'.1 hdiv (by omega) (by omega) (by omega) (by omega) (by omega)
          refine ⟨_, y, A4, tgN_e, ?_, ⟨P4, hA'.2.trans G4⟩, d4⟩
          have hz : 1 + z < 18446744073709551616 := by omega
          simp [e4, hs0, hz]
        rw [hlen] at l3
        have hl7 : ys.length < 16777216 := by simp at l3; omega
        have hl8 : ys.length ≤ 16777216 := by omega
        have hs3 : -4611686018427387904 ≤ 1 + z := by omega
        have hs4 : 1 + z < 4611686018427387904 := by omega
        refine ⟨.tup [.str (if way % 2 = 0 then "and" else "or"), .tup ys], A3, ?_, .inr (.inr (.inl ⟨decide (way % 2 = 0), ys, _, by simp, ?_, ?_, h3, ?_⟩)), P3, G1.trans (G2.trans G3)⟩
        · rcases (by omega : way % 2 = 0 ∨ way % 2 = 1) with h | h <;> simp [b_law_decision, e1, e2, em, hl1, hl2, hl3, hw3, hw7, hs3, hs4, wipeD, e3, h, hl7]
        · intro h; subst h; simp at l3; omega
        · simp at l3; omega
        · have : ys.length = (1 + z).toNat := by simpa using l3
          rw [this]
          have e5 : (((1 + z).toNat * ((room - 1) / (1 + z)).toNat : Nat) : Int) = (1 + z) * ((room - 1) / (1 + z)) := by
            rw [Int.natCast_mul, Int.toNat_of_nonneg (by omega), Int.toNat_of_nonneg (by omega)]
          omega
      · have hq0 : 0 < (if (room - 2) / 2 + 1 < 4 then (room - 2) / 2 + 1 else 4) := by split <;> omega
        have hq1 : (if (room - 2) / 2 + 1 < 4 then (room - 2) / 2 + 1 else 4) ≤ 4 := by split <;> omega
        have em : ∀ A, fMin2 [.int 4, .int ((room - 2) / 2 + 1)] A = .ok (.int (if (room - 2) / 2 + 1 < 4 then (room - 2) / 2 + 1 else 4)) A := fun _ => rfl
        revert em hq0 hq1
        generalize (if (room - 2) / 2 + 1 < 4 then (room - 2) / 2 + 1 else 4) = q
        intro hq0 hq1 em
        obtain ⟨z, A2, z0, z1, e2, P2, G2⟩ := take_i P1 (m := q) hq0 (by omega)
        have hs0 : 0 < 2 * (1 + z) + 1 := by omega
        have hs5 : 2 * (1 + z) + 1 < 18446744073709551616 := by omega
        have hdiv2 : (2 * (1 + z) + 1) * ((room - 1) / (2 * (1 + z) + 1)) ≤ room - 1 := Int.mul_ediv_self_le (by omega)
        have hdiv3 : (room - 1) / (2 * (1 + z) + 1) ≤ room - 1 := Int.ediv_le_self _ (by omega)
        by_cases hea : (room - 1) / (2 * (1 + z) + 1) < 1
        · obtain ⟨k, A3, k0, k1, e3, P3, G3⟩ := take_i P2 (m := m) (by omega) (by omega)
          refine ⟨.tup [.str "wish", .int k], A3, ?_, wish k k0 k1, P3, G1.trans (G2.trans G3)⟩
          simp [b_law_decision, e1, e2, e3, em, hl1, hl2, hl3, hw3, hw7, hs0, hs5, hea]
        · have hs3 : -4611686018427387904 ≤ 1 + z := by omega
          have hs4 : 1 + z < 4611686018427387904 := by omega
          have e5 : ((((2 * (1 + z) + 1)).toNat * ((room - 1) / (2 * (1 + z) + 1)).toNat : Nat) : Int) = (2 * (1 + z) + 1) * ((room - 1) / (2 * (1 + z) + 1)) := by
            rw [Int.natCast_mul, Int.toNat_of_nonneg (by omega), Int.toNat_of_nonneg (by omega)]
          have emid : ∀ A, dFdiv (.int (room - 1)) (.int (2 * (1 + z) + 1)) A = .ok (.int ((room - 1) / (2 * (1 + z) + 1))) A := fun A => dFdiv_s hs0 hs5
          revert e5 hdiv2 hdiv3 hea emid
          generalize (room - 1) / (2 * (1 + z) + 1) = ea
          intro hdiv2 hdiv3 hea e5 emid
          have hlen : (rng 0 (1 + z).toNat).length = (1 + z).toNat := rng_len
          obtain ⟨σ', A3, e3, ps, x', y', w', l3, rfl, hps, al, P3, G3⟩ := forD_cnt (ok := fun _ => True) (tg := tgN 8) (body := (sSeq (sSet 10 (mCall (m_law_decision f) [] (mArgs (mVar 0) (mArgs (mVar 1) (mArgs (mVar 6) (mArgs (m2 dSub (mVar 3) (mC (.int 1))) mArgs0))))))
  (sExpr (mMeth isL fAppend (mVar 7) (mArgs (mA fTup (mArgs (mVar 10) (mArgs (mCall (m_law_decision f) [] (mArgs (mVar 0) (mArgs (mVar 1) (mArgs (mVar 6) (mArgs (m2 dSub (mVar 3) (mC (.int 1))) mArgs0))))) mArgs0))) mArgs0))))) (σ := [some (.ref n), some (.int m), some (.int room), some (.int deep), some (.int way), some (.int (1 + z)), some (.int ea), some (.ref A2.length), none, none, none])
            (fun i σ A' => ∃ (ps : List (D × D)) (x y w : Option D), ps.length = i ∧ σ = [some (.ref n), some (.int m), some (.int room), some (.int deep), some (.int way), some (.int (1 + z)), some (.int ea), some (.ref A2.length), x, y, w] ∧ (∀ p ∈ ps, Dec m.toNat g ea.toNat p.1 ∧ Dec m.toNat g ea.toNat p.2) ∧ A'[A2.length]? = some (.lst (ps.map fun p => .tup [p.1, p.2])) ∧ Pl n A' ∧ Grow n A2 A') (fun _ _ _ _ => trivial) (ds := rng 0 (1 + z).toNat) (A := A2 ++ [.lst []]) (k := 0) ⟨[], none, none, none, rfl, rfl, (fun _ h => nomatch h), by simp, P2.push, Grow.push⟩ fun i d hd σ A' ⟨ps, x, y, w, hi, hσ, hps, al, hP', hG'⟩ => by
              have hne : A2.length ≠ n := Nat.ne_of_gt P2.lt
              obtain ⟨d1, B1, f1, D1, Q1, H1, _⟩ := ih (g := g) (room := ea) (deep := deep - 1) hP' (by omega) (by omega) (by omega) (by omega) (by omega) (by omega)
              obtain ⟨d2, B2, f2, D2, Q2, H2, _⟩ := ih (g := g) (room := ea) (deep := deep - 1) Q1 (by omega) (by omega) (by omega) (by omega) (by omega) (by omega)
              have hil : i < (1 + z).toNat := by
                have := (List.getElem?_eq_some_iff.mp hd).1
                rwa [rng_len] at this
              have al2 := H2.old (H1.old al hne) hne
              subst hσ
              refine ⟨_, A', [some (.ref n), some (.int m), some (.int room), some (.int deep), some (.int way), some (.int (1 + z)), some (.int ea), some (.ref A2.length), some d, y, some d1], B2.set A2.length (.lst (ps.map (fun p => .tup [p.1, p.2]) ++ [.tup [d1, d2]])), tgN_e, .inl ?_, ps ++ [(d1, d2)], some d, y, some d1, by simp [hi], rfl, ?_, by rw [set_at al2]; simp, Q2.set hne, ?_⟩
              · have al1 := H1.old al hne
                have hap := fun y => fAppend_e (y := y) al2 (by rw [List.length_map]; omega)
                simp [f1, f2, al1, hap]
              · intro p hp
                rcases List.mem_append.mp hp with h | h
                · exact hps p h
                · rw [List.mem_singleton.mp h]; exact ⟨D1, D2⟩
              · have g2 := (hG'.trans H1).trans H2
                refine ⟨by simpa using g2.1, fun j hj hn => ?_⟩
                rw [List.getElem?_set_ne (by omega)]
                exact g2.2 j hj hn
          rw [hlen, Nat.zero_add] at l3
          obtain ⟨e, A4, e4, D4, P4, G4, _⟩ := ih (g := g) (room := ea) (deep := deep - 1) P3 (by omega) (by omega) (by omega) (by omega) (by omega) (by omega)
          refine ⟨.tup [.str "cases", .tup (ps.map fun p => .tup [p.1, p.2]), e], A4, ?_, .inr (.inr (.inr ⟨ps, e, ea.toNat, rfl, ?_, by omega, hps, D4, ?_⟩)), P4, G1.trans (G2.trans (G3.trans G4))⟩
          · simp [b_law_decision, e1, e2, em, emid, hl1, hl2, hl3, hw3, hw7, hea, hs3, hs4, e3, al, e4]
          · intro h; subst h; simp at l3; omega
          · have : (2 * ps.length + 1) = (2 * (1 + z) + 1).toNat := by omega
            rw [this]
            omega
end Mb
end
section
set_option Elab.async false
set_option linter.all false
set_option maxRecDepth 100000
set_option maxHeartbeats 4000000
namespace Mb
open PySem PySem.Spec L2 Vi
noncomputable def b_is_whole : SM :=
  (sRet (mAnd (mA fIsi (mArgs (mVar 0) (mArgs (mC (.ty .int)) mArgs0))) (m1 dNot (mA fIsi (mArgs (mVar 0) (mArgs (mC (.ty .bool)) mArgs0))))))
noncomputable def m_is_whole : List D → List O → R D := runB 1 b_is_whole
noncomputable def b_is_within : SM :=
  (sRet (mAnd (mCall m_is_whole [] (mArgs (mVar 0) mArgs0)) (mChain dLe dLe (mVar 1) (mVar 0) (mVar 2))))
noncomputable def m_is_within : List D → List O → R D := runB 3 b_is_within
noncomputable def b_inner_parts : SM :=
  (sSeq (sIf (mBl (m2 dEq (m2 dIx (mVar 0) (mC (.int 0))) (mC (.str "not"))))
  (sRet (mA (newL true) (mArgs (m2 dIx (mVar 0) (mC (.int 1))) mArgs0)))
  sPass)
  (sSeq (sIf (mBl (m2 (dIn false) (m2 dIx (mVar 0) (mC (.int 0))) (mA fTup (mArgs (mC (.str "and")) (mArgs (mC (.str "or")) mArgs0)))))
  (sRet (mA (fListOf true) (mArgs (m2 dIx (mVar 0) (mC (.int 1))) mArgs0)))
  sPass)
  (sSeq (sIf (mBl (m2 dEq (m2 dIx (mVar 0) (mC (.int 0))) (mC (.str "cases"))))
  (sSeq (sSet 1 (mA (newL false) mArgs0))
  (sSeq (sFor (mSrc (m2 dIx (mVar 0) (mC (.int 1)))) (tgT 2 (tgsCons (tgN 2) (tgsCons (tgN 3) tgsNil)))
  (sExpr (mMeth isL fExtend (mVar 1) (mArgs (mA (newL true) (mArgs (mVar 2) (mArgs (mVar 3) mArgs0))) mArgs0))))
  (sRet (m2 (dAdd true) (mVar 1) (mA (newL true) (mArgs (m2 dIx (mVar 0) (mC (.int 2))) mArgs0))))))
  sPass)
  (sRet (mA (newL true) mArgs0)))))
noncomputable def m_inner_parts : List D → List O → R D := runB 4 b_inner_parts
noncomputable def b_are_rows : SM :=
  (sSeq (sIf (mOrT (mNotT (mTru (mA fIsi (mArgs (mVar 0) (mArgs (mC (.ty .tuple)) mArgs0))))) (mNotT (mBl (mChain dLe dLe (mC (.int 1)) (mA fLen (mArgs (mVar 0) mArgs0)) (mC (.int 4))))))
  (sRet (mC (.bl false)))
  sPass)
  (sRet (mA fAll (mArgs (mLc true (mSrc (mVar 0)) (tgN 1) mYes (mAnd (mA fIsi (mArgs (mVar 1) (mArgs (mC (.ty .tuple)) mArgs0))) (m2 dEq (mA fLen (mArgs (mVar 1) mArgs0)) (mC (.int 2)))) [1]) mArgs0))))
noncomputable def m_are_rows : List D → List O → R D := runB 2 b_are_rows
noncomputable def b_is_form : SM :=
  (sSeq (sIf (mOrT (mNotT (mTru (mA fIsi (mArgs (mVar 0) (mArgs (mC (.ty .tuple)) mArgs0))))) (mOrT (mBl (m2 dEq (mVar 0) (mA fTup mArgs0))) (mNotT (mTru (mA fIsi (mArgs (m2 dIx (mVar 0) (mC (.int 0))) (mArgs (mC (.ty .str)) mArgs0)))))))
  (sRet (mC (.bl false)))
  sPass)
  (sSeq (sIf (mBl (m2 (dIn false) (m2 dIx (mVar 0) (mC (.int 0))) (mA fTup (mArgs (mC (.str "yes")) (mArgs (mC (.str "no")) mArgs0)))))
  (sRet (m2 dEq (mA fLen (mArgs (mVar 0) mArgs0)) (mC (.int 1))))
  sPass)
  (sSeq (sIf (mBl (m2 dEq (m2 dIx (mVar 0) (mC (.int 0))) (mC (.str "cases"))))
  (sRet (mAnd (m2 dEq (mA fLen (mArgs (mVar 0) mArgs0)) (mC (.int 3))) (mCall m_are_rows [] (mArgs (m2 dIx (mVar 0) (mC (.int 1))) mArgs0))))
  sPass)
  (sSeq (sIf (mBl (m2 dNe (mA fLen (mArgs (mVar 0) mArgs0)) (mC (.int 2))))
  (sRet (mC (.bl false)))
  sPass)
  (sSeq (sIf (mBl (m2 dEq (m2 dIx (mVar 0) (mC (.int 0))) (mC (.str "wish"))))
  (sRet (mCall m_is_within [] (mArgs (m2 dIx (mVar 0) (mC (.int 1))) (mArgs (mC (.int 0)) (mArgs (m2 dSub (mVar 1) (mC (.int 1))) mArgs0)))))
  sPass)
  (sSeq (sIf (mBl (m2 dEq (m2 dIx (mVar 0) (mC (.int 0))) (mC (.str "not"))))
  (sRet (mC (.bl true)))
  sPass)
  (sRet (mAnd (m2 (dIn false) (m2 dIx (mVar 0) (mC (.int 0))) (mA fTup (mArgs (mC (.str "and")) (mArgs (mC (.str "or")) mArgs0)))) (mAnd (mA fIsi (mArgs (m2 dIx (mVar 0) (mC (.int 1))) (mArgs (mC (.ty .tuple)) mArgs0))) (mChain dLe dLe (mC (.int 1)) (mA fLen (mArgs (m2 dIx (mVar 0) (mC (.int 1))) mArgs0)) (mC (.int 6))))))))))))
noncomputable def m_is_form : List D → List O → R D := runB 2 b_is_form
noncomputable def b_parts_of (r_parts_of : List D → List O → R D) : SM :=
  (sSeq (sIf (mOrT (mBl (m2 dLt (mVar 2) (mC (.int 1)))) (mNotT (mTru (mCall m_is_form [] (mArgs (mVar 0) (mArgs (mVar 1) mArgs0))))))
  (sRet (mC .non))
  sPass)
  (sSeq (sSet 3 (mC (.int 1)))
  (sSeq (sFor (mSrc (mCall m_inner_parts [] (mArgs (mVar 0) mArgs0))) (tgN 4)
  (sSeq (sSet 5 (mCall r_parts_of [] (mArgs (mVar 4) (mArgs (mVar 1) (mArgs (m2 dSub (mVar 2) (mC (.int 1))) mArgs0)))))
  (sSeq (sIf (mOrT (mBl (m2 dIs (mVar 5) (mC .non))) (mBl (m2 dGt (m2 (dAdd true) (mVar 3) (mVar 5)) (mC (.int 60)))))
  (sRet (mC .non))
  sPass)
  (sAug 3 dAddI (mVar 5)))))
  (sRet (mVar 3)))))
noncomputable def m_parts_of : Nat → List D → List O → R D
  | 0 => fun _ _ => .no
  | n + 1 => runB 6 (b_parts_of (m_parts_of n))
noncomputable def b_is_decision : SM :=
  (sRet (m2 dIsNot (mCall (m_parts_of 16) [] (mArgs (mVar 0) (mArgs (mVar 1) (mArgs (mC (.int 12)) mArgs0)))) (mC .non)))
noncomputable def m_is_decision : List D → List O → R D := runB 2 b_is_decision
/-! plain data -/
def Fl (d : D) : Prop := d = .non ∨ (∃ b, d = .bl b) ∨ (∃ i, d = .int i) ∨ ∃ s, d = .str s ∧ PyData.strOk s = true
def Dat : Nat → D → Prop
  | 0, d => Fl d
  | n + 1, d => Fl d ∨ ∃ ds, (d = .tup ds ∨ d = .lst ds) ∧ ∀ e ∈ ds, Dat n e
theorem Dat.mono : ∀ {n k : Nat} {d : D}, Dat n d → n ≤ k → Dat k d
  | 0, 0, d, h, _ => h
  | 0, k + 1, d, h, _ => .inl h
  | n + 1, 0, d, h, hk => absurd hk (by omega)
  | n + 1, k + 1, d, h, hk => by
    rcases h with h | ⟨ds, h1, h2⟩
    · exact .inl h
    · exact .inr ⟨ds, h1, fun e he => (h2 e he).mono (by omega)⟩
theorem Dat.noR : ∀ {n : Nat} {d : D}, Dat n d → noR d = true
  | 0, d, h => by rcases h with rfl | ⟨b, rfl⟩ | ⟨i, rfl⟩ | ⟨s, rfl, _⟩ <;> simp
  | n + 1, d, h => by
    rcases h with (rfl | ⟨b, rfl⟩ | ⟨i, rfl⟩ | ⟨s, rfl, _⟩) | ⟨ds, rfl | rfl, h⟩
    · simp
    · simp
    · simp
    · simp
    · rw [noR_tup]; exact List.all_eq_true.mpr fun e he => (h e he).noR
    · rw [noR_lst]; exact List.all_eq_true.mpr fun e he => (h e he).noR
theorem Dat.tup {n : Nat} {ds : List D} (h : ∀ e ∈ ds, Dat n e) : Dat (n + 1) (.tup ds) := .inr ⟨ds, .inl rfl, h⟩
theorem Dat.str {n : Nat} {s : Str} (h : PyData.strOk s = true) : Dat n (.str s) := by cases n with
  | zero => exact .inr (.inr (.inr ⟨s, rfl, h⟩))
  | succ n => exact .inl (.inr (.inr (.inr ⟨s, rfl, h⟩)))
theorem Dat.int {n : Nat} {i : Int} : Dat n (.int i) := by cases n with
  | zero => exact .inr (.inr (.inl ⟨i, rfl⟩))
  | succ n => exact .inl (.inr (.inr (.inl ⟨i, rfl⟩)))
theorem Dat.of_tup {n : Nat} {ds : List D} (h : Dat n (.tup ds)) : ∀ e ∈ ds, Dat n e := by
  cases n with
  | zero => rcases h with h | ⟨_, h⟩ | ⟨_, h⟩ | ⟨_, h, _⟩ <;> cases h
  | succ n =>
    rcases h with h | ⟨es, h1, h2⟩
    · rcases h with h | ⟨_, h⟩ | ⟨_, h⟩ | ⟨_, h, _⟩ <;> cases h
    · rcases h1 with h1 | h1
      · cases h1; exact fun e he => (h2 e he).mono (by omega)
      · cases h1
theorem Dat.py : ∀ {n : Nat} {d : D}, Dat n d → ∃ x, (∀ A j, n ≤ j → py A j d = some x) ∧ x.canLay0 = true ∧ x.depth ≤ n := by
  have flat : ∀ {n : Nat} {d : D}, Fl d → ∃ x, (∀ A j, n ≤ j → Vi.py A j d = some x) ∧ x.canLay0 = true ∧ x.depth ≤ n := by
    intro n d h
    rcases h with rfl | ⟨b, rfl⟩ | ⟨i, rfl⟩ | ⟨s, rfl, hs⟩
    · exact ⟨.none, fun _ j _ => by cases j <;> rfl, rfl, Nat.zero_le _⟩
    · exact ⟨.bool b, fun _ j _ => by cases j <;> rfl, rfl, Nat.zero_le _⟩
    · exact ⟨.int i, fun _ j _ => by cases j <;> rfl, rfl, Nat.zero_le _⟩
    · exact ⟨.str s, fun _ j _ => by cases j <;> rfl, by simpa [PyData.canLay0] using hs, Nat.zero_le _⟩
  intro n
  induction n with
  | zero => intro d h; exact flat h
  | succ n ih =>
    intro d h
    rcases h with h | ⟨ds, h1, h2⟩
    · exact flat h
    · have hl : ∃ xs, (∀ A j, n ≤ j → pys (Vi.py A j) ds = some xs) ∧ PyData.canLayAll0 xs = true ∧ PyData.depthAll xs ≤ n := by
        clear h1
        induction ds with
        | nil => exact ⟨[], fun _ _ _ => rfl, rfl, Nat.zero_le _⟩
        | cons e ds ihd =>
          obtain ⟨x, a1, a2, a3⟩ := ih (h2 e (List.mem_cons_self ..))
          obtain ⟨xs, b1, b2, b3⟩ := ihd fun e' he => h2 e' (List.mem_cons_of_mem _ he)
          exact ⟨x :: xs, fun A j hj => by rw [pys, a1 A j hj, b1 A j hj]; rfl, by simp [PyData.canLayAll0, a2, b2], by simp only [PyData.depthAll]; omega⟩
      obtain ⟨xs, b1, b2, b3⟩ := hl
      rcases h1 with rfl | rfl
      · refine ⟨.tuple xs, fun A j hj => ?_, by simpa [PyData.canLay0] using b2, by simp only [PyData.depth]; omega⟩
        obtain ⟨i, rfl⟩ : ∃ i, j = i + 1 := ⟨j - 1, by omega⟩
        show (pys (Vi.py A i) ds).map _ = _
        rw [b1 A i (by omega)]; rfl
      · refine ⟨.list xs, fun A j hj => ?_, by simpa [PyData.canLay0] using b2, by simp only [PyData.depth]; omega⟩
        obtain ⟨i, rfl⟩ : ∃ i, j = i + 1 := ⟨j - 1, by omega⟩
        show (pys (Vi.py A i) ds).map _ = _
        rw [b1 A i (by omega)]; rfl
theorem eq_tnil {n : Nat} {ds : List D} {A : List O} (h : Dat n (.tup ds)) (hn : n ≤ 64) : dEq (.tup ds) (.tup []) A = .ok (.bl ds.isEmpty) A := by
  obtain ⟨x, h1, h2, h3⟩ := h.py
  have e := h1 A 64 hn
  have e0 := e
  replace e : (pys (Vi.py A 63) ds).map PyData.tuple = some x := e
  obtain ⟨xs, e1, rfl⟩ := Option.map_eq_some_iff.mp e
  have hs : SeqAt.shaped (.tuple xs) = true := by
    simp only [SeqAt.shaped, Bool.and_eq_true]
    exact ⟨h2, by simp; omega⟩
  have e2 : Vi.py A 64 (.tup []) = some (.tuple []) := rfl
  show dEqD _ _ A = _
  unfold dEqD
  rw [e0, e2]
  simp only [hs]
  cases ds with
  | nil => cases e1; rfl
  | cons d ds =>
    rw [pys] at e1
    obtain ⟨y, _, hy⟩ := Option.bind_eq_some_iff.mp e1
    obtain ⟨ys, _, rfl⟩ := Option.map_eq_some_iff.mp hy
    rfl
/-! what is_form says -/
def within (x : D) (lo hi : Int) : Bool := match x with
  | .int i => decide (lo ≤ i) && decide (i ≤ hi)
  | _ => false
def isPair : D → Bool
  | .tup ds => ds.length == 2
  | _ => false
def rowsOk : D → Bool
  | .tup rs => decide (1 ≤ rs.length) && decide (rs.length ≤ 4) && rs.all isPair
  | _ => false
def isTup : D → Bool
  | .tup _ => true
  | _ => false
def formOk (many : Int) (d : D) : Bool := match d with
  | .tup (.str w :: r) =>
    if w = ("yes" : Str) ∨ w = ("no" : Str) then r.isEmpty
    else if w = ("cases" : Str) then (match r with | [rows, _] => rowsOk rows | _ => false)
    else match r with
      | [x] => if w = ("wish" : Str) then within x 0 (many - 1) else if w = ("not" : Str) then true
        else if w = ("and" : Str) ∨ w = ("or" : Str) then (match x with | .tup es => decide (1 ≤ es.length) && decide (es.length ≤ 6) | _ => false) else false
      | _ => false
  | _ => false
def pairOf : D → List D
  | .tup ds => ds
  | _ => []
def inner (d : D) : List D := match d with
  | .tup (.str w :: r) =>
    if w = ("not" : Str) then (match r with | e :: _ => [e] | _ => [])
    else if w = ("and" : Str) ∨ w = ("or" : Str) then (match r with | .tup es :: _ => es | _ => [])
    else if w = ("cases" : Str) then (match r with | .tup rs :: e :: _ => rs.flatMap pairOf ++ [e] | _ => [])
    else []
  | _ => []
def okF (many : Int) : Nat → D → Bool
  | 0, _ => false
  | n + 1, d => formOk many d && (inner d).all (okF many n)
def szF : Nat → D → Nat
  | 0, _ => 0
  | n + 1, d => 1 + ((inner d).map (szF n)).sum
section
variable {A : List O}
@[simp] theorem isi_tt {ds : List D} : fIsi [.tup ds, .ty .tuple] A = .ok (.bl true) A := rfl
theorem isi_tuple {n : Nat} {d : D} (h : Dat n d) : fIsi [d, .ty .tuple] A = .ok (.bl (isTup d)) A := by
  cases n with
  | zero => rcases h with rfl | ⟨_, rfl⟩ | ⟨_, rfl⟩ | ⟨_, rfl, _⟩ <;> rfl
  | succ n => rcases h with (rfl | ⟨_, rfl⟩ | ⟨_, rfl⟩ | ⟨_, rfl, _⟩) | ⟨ds, rfl | rfl, _⟩ <;> rfl
def isInt : D → Bool
  | .int _ => true
  | .bl _ => true
  | _ => false
def isBl : D → Bool
  | .bl _ => true
  | _ => false
def isStr : D → Bool
  | .str _ => true
  | _ => false
theorem isi_int {n : Nat} {d : D} (h : Dat n d) : fIsi [d, .ty .int] A = .ok (.bl (isInt d)) A := by
  cases n with
  | zero => rcases h with rfl | ⟨_, rfl⟩ | ⟨_, rfl⟩ | ⟨_, rfl, _⟩ <;> rfl
  | succ n => rcases h with (rfl | ⟨_, rfl⟩ | ⟨_, rfl⟩ | ⟨_, rfl, _⟩) | ⟨ds, rfl | rfl, _⟩ <;> rfl
theorem isi_bool {n : Nat} {d : D} (h : Dat n d) : fIsi [d, .ty .bool] A = .ok (.bl (isBl d)) A := by
  cases n with
  | zero => rcases h with rfl | ⟨_, rfl⟩ | ⟨_, rfl⟩ | ⟨_, rfl, _⟩ <;> rfl
  | succ n => rcases h with (rfl | ⟨_, rfl⟩ | ⟨_, rfl⟩ | ⟨_, rfl, _⟩) | ⟨ds, rfl | rfl, _⟩ <;> rfl
theorem isi_str {n : Nat} {d : D} (h : Dat n d) : fIsi [d, .ty .str] A = .ok (.bl (isStr d)) A := by
  cases n with
  | zero => rcases h with rfl | ⟨_, rfl⟩ | ⟨_, rfl⟩ | ⟨_, rfl, _⟩ <;> rfl
  | succ n => rcases h with (rfl | ⟨_, rfl⟩ | ⟨_, rfl⟩ | ⟨_, rfl, _⟩) | ⟨ds, rfl | rfl, _⟩ <;> rfl
theorem is_whole_ok {n : Nat} {d : D} (h : Dat n d) : m_is_whole [d] A = .ok (.bl (isInt d && !isBl d)) A := by
  have e1 := fun A => isi_int (A := A) h
  have e2 := fun A => isi_bool (A := A) h
  cases hi : isInt d <;> simp [m_is_whole, b_is_whole, e1, e2, hi]
theorem is_within_ok {n : Nat} {d : D} {lo hi : Int} (h : Dat n d) : m_is_within [d, .int lo, .int hi] A = .ok (.bl (within d lo hi)) A := by
  have e := fun A => is_whole_ok (A := A) h
  cases d with
  | int i => 
    have e' := fun A => e A
    simp only [isInt, isBl, Bool.not_false, Bool.and_self] at e'
    by_cases hl : lo ≤ i <;> simp [m_is_within, b_is_within, e', within, hl]
  | _ => 
    simp only [isInt, isBl, Bool.not_false, Bool.not_true, Bool.and_self, Bool.and_false, Bool.false_and] at e
    simp [m_is_within, b_is_within, e, within]
end
end Mb
end
section
set_option Elab.async false
set_option linter.all false
set_option maxRecDepth 100000
set_option maxHeartbeats 4000000
namespace Mb
open PySem PySem.Spec L2 Vi
section
variable {A : List O}
theorem are_rows_ok {n : Nat} {d : D} (h : Dat n d) : m_are_rows [d] A = .ok (.bl (rowsOk d)) A := by
  have e := isi_tuple (A := A) h
  cases d with
  | tup rs =>
    have lc : rs.length ≤ 4 → lcD (fun _ => True) (tgN 1) mYes (mAnd (mA fIsi (mArgs (mVar 1) (mArgs (mC (.ty .tuple)) mArgs0))) (m2 dEq (mA fLen (mArgs (mVar 1) mArgs0)) (mC (.int 2)))) [some (.tup rs), none] rs [] A = .ok ((rs.map isPair).map D.bl) A := fun h4 => by
      rw [lcD_map (fun e => .bl (isPair e)) trivial (by omega) fun e he => ?_]
      · simp
      have hd := h.of_tup e he
      refine ⟨_, tgN_e, ?_⟩
      have e1 := isi_tuple (A := A) hd
      cases e with
      | tup ds =>
        have : ((ds.length : Int) == 2) = (ds.length == 2) := by
          rw [Bool.eq_iff_iff]; simp; omega
        simp [isPair, this]
      | _ =>
        simp only [isTup] at e1
        simp [e1, isPair]
    by_cases h1 : (1 : Int) ≤ rs.length
    · by_cases h4 : (rs.length : Int) ≤ 4
      · have l4 : rs.length ≤ 4 := by omega
        have l5 : rs.length < 16777216 := by omega
        have l6 : 1 ≤ rs.length := by omega
        have lc := lc l4
        have ha : rs.all isPair = (rs.map isPair).all id := by simp
        simp [m_are_rows, b_are_rows, rowsOk, h1, h4, l4, l6, wipeD, lc, l5, -List.map_map]
      · have l4 : ¬ rs.length ≤ 4 := by omega
        simp [m_are_rows, b_are_rows, rowsOk, h1, h4, l4]
    · have l4 : ¬ 1 ≤ rs.length := by omega
      have l5 : rs = [] := by cases rs with
        | nil => rfl
        | cons => simp at l4
      subst l5
      simp [m_are_rows, b_are_rows, rowsOk]
  | _ =>
    simp only [isTup] at e
    simp [m_are_rows, b_are_rows, rowsOk, e]
theorem is_form_ok {n : Nat} {d : D} (h : Dat n d) (hn : n ≤ 64) {many : Int} : m_is_form [d, .int many] A = .ok (.bl (formOk many d)) A := by
  have e := isi_tuple (A := A) h
  cases d with
  | tup ds =>
    have e2 := eq_tnil (A := A) h hn
    cases ds with
    | nil =>
      simp [m_is_form, b_is_form, e2, formOk]
    | cons w r =>
      have hw := h.of_tup w (List.mem_cons_self ..)
      have e3 := isi_str (A := A) hw
      cases w with
      | str w =>
        simp only [isStr] at e3
        have e4 : ((r.length : Int) + 1 == 1) = r.isEmpty := by
          rw [Bool.eq_iff_iff]; cases r <;> simp; omega
        by_cases h1 : w = ("yes" : Str)
        · subst h1
          simp [m_is_form, b_is_form, e2, e3, formOk, e4]
        by_cases h2 : w = ("no" : Str)
        · subst h2
          simp [m_is_form, b_is_form, e2, e3, formOk, e4]
        have h1' : ¬ ("yes" : Str) = w := fun h => h1 h.symm
        have h2' : ¬ ("no" : Str) = w := fun h => h2 h.symm
        by_cases h3 : w = ("cases" : Str)
        · subst h3
          have hr := h.of_tup
          match r, e4 with
          | [], _ => simp [m_is_form, b_is_form, e2, e3, formOk]
          | [x], _ => simp [m_is_form, b_is_form, e2, e3, formOk]
          | [x, y], _ =>
            have e5 := are_rows_ok (A := A) (h.of_tup x (by simp))
            simp [m_is_form, b_is_form, e2, e3, formOk, e5]
          | x :: y :: z :: q, _ =>
            have e6 : ((q.length : Int) + 1 + 1 + 1 + 1 == 3) = false := by
              rw [beq_eq_false_iff_ne]; omega
            simp [m_is_form, b_is_form, e2, e3, formOk, e6]
        match r, e4 with
        | [], _ => simp [m_is_form, b_is_form, e2, e3, formOk, h1, h2, h3, h1', h2']
        | x :: y :: q, _ =>
          have e6 : ((q.length : Int) + 1 + 1 + 1 == 2) = false := by
            rw [beq_eq_false_iff_ne]; omega
          simp [m_is_form, b_is_form, e2, e3, formOk, h1, h2, h3, h1', h2', e6]
        | [x], _ =>
          have hx := h.of_tup x (by simp)
          have e5 := is_within_ok (A := A) (lo := 0) (hi := many - 1) hx
          by_cases h4 : w = ("wish" : Str)
          · subst h4
            simp [m_is_form, b_is_form, e2, e3, formOk, e5]
          by_cases h5 : w = ("not" : Str)
          · subst h5
            simp [m_is_form, b_is_form, e2, e3, formOk]
          have e7 := isi_tuple (A := A) hx
          have lens : ∀ es : List D, (decide ((1 : Int) ≤ es.length) && decide ((es.length : Int) ≤ 6)) = (decide (1 ≤ es.length) && decide (es.length ≤ 6)) := fun es => by
            rw [Bool.eq_iff_iff]; simp; omega
          by_cases h6 : w = ("and" : Str) ∨ w = ("or" : Str)
          · cases x with
            | tup es =>
              by_cases g1 : (1 : Int) ≤ es.length
              · have g2 : 1 ≤ es.length := by omega
                rcases h6 with rfl | rfl <;> simp [m_is_form, b_is_form, e2, e3, formOk, g1, g2] <;> omega
              · have g2 : ¬ 1 ≤ es.length := by omega
                rcases h6 with rfl | rfl <;> simp [m_is_form, b_is_form, e2, e3, formOk, g1, g2]
            | _ =>
              simp only [isTup] at e7
              rcases h6 with rfl | rfl <;> simp [m_is_form, b_is_form, e2, e3, formOk, e7]
          · have h7 : ¬ w = ("and" : Str) := fun h => h6 (.inl h)
            have h8 : ¬ w = ("or" : Str) := fun h => h6 (.inr h)
            have h7' : ¬ ("and" : Str) = w := fun h => h7 h.symm
            have h8' : ¬ ("or" : Str) = w := fun h => h8 h.symm
            simp [m_is_form, b_is_form, e2, e3, formOk, h1, h2, h3, h1', h2', h4, h5, h7, h8, h7', h8']
      | _ =>
        simp only [isStr] at e3
        simp [m_is_form, b_is_form, e2, e3, formOk]
  | _ =>
    simp only [isTup] at e
    simp [m_is_form, b_is_form, e, formOk]
end
end Mb
end
section
set_option Elab.async false
set_option linter.all false
set_option maxRecDepth 100000
set_option maxHeartbeats 4000000
namespace Vi
open PySem PySem.Spec L2
theorem fExtend_e {l : Nat} {A : List O} {ds es : List D} {y : D} (h : A[l]? = some (.lst ds)) (hy : lstOf y A = some es) (hl : ds.length + es.length ≤ 16777216) : fExtend (.ref l) [y] A = .ok .non (A.set l (.lst (ds ++ es))) := by
  unfold fExtend
  simp only [ourL_r, h, hy]
  rw [sizeLine_eq, if_pos hl]
theorem set_last {A : List O} {o o' : O} : (A ++ [o]).set A.length o' = A ++ [o'] := by simp
@[simp] theorem get_last {A : List O} {o : O} : (A ++ [o])[A.length]? = some o := by simp
end Vi
namespace Mb
open PySem PySem.Spec L2 Vi
/-- each row of cases is a pair -/
theorem rows_pairs {rs : List D} (h : rs.all isPair = true) : ∃ ps : List (D × D), rs = ps.map fun p => .tup [p.1, p.2] := by
  induction rs with
  | nil => exact ⟨[], rfl⟩
  | cons r rs ih =>
    simp only [List.all_cons, Bool.and_eq_true] at h
    obtain ⟨ps, rfl⟩ := ih h.2
    have h1 := h.1
    cases r with
    | tup ds =>
      match ds, h1 with
      | [a, b], _ => exact ⟨(a, b) :: ps, rfl⟩
    | _ => cases h1
/-- the forms -/
theorem form_cases {many : Int} {d : D} (h : formOk many d = true) :
    d = .tup [.str "yes"] ∨ d = .tup [.str "no"] ∨ (∃ k : Int, 0 ≤ k ∧ k ≤ many - 1 ∧ d = .tup [.str "wish", .int k]) ∨ (∃ e, d = .tup [.str "not", e]) ∨
    (∃ (w : Bool) (es : List D), d = .tup [.str (if w then "and" else "or"), .tup es] ∧ 1 ≤ es.length ∧ es.length ≤ 6) ∨
    (∃ (ps : List (D × D)) (e : D), d = .tup [.str "cases", .tup (ps.map fun p => .tup [p.1, p.2]), e] ∧ 1 ≤ ps.length ∧ ps.length ≤ 4) := by
  unfold formOk at h
  split at h
  · rename_i w r
    split at h
    · rename_i hw
      have : r = [] := by cases r <;> simp_all
      subst this
      rcases hw with rfl | rfl
      · exact .inl rfl
      · exact .inr (.inl rfl)
    split at h
    · rename_i hw
      subst hw
      split at h
      · rename_i rows e
        unfold rowsOk at h
        split at h
        · rename_i rs
          simp only [Bool.and_eq_true, decide_eq_true_eq] at h
          obtain ⟨ps, rfl⟩ := rows_pairs h.2
          exact .inr (.inr (.inr (.inr (.inr ⟨ps, e, rfl, by simpa using h.1.1, by simpa using h.1.2⟩))))
        · cases h
      · cases h
    · split at h
      · rename_i x
        split at h
        · rename_i hw
          subst hw
          unfold within at h
          split at h
          · rename_i i
            simp only [Bool.and_eq_true, decide_eq_true_eq] at h
            exact .inr (.inr (.inl ⟨i, h.1, h.2, rfl⟩))
          · cases h
        split at h
        · rename_i hw
          subst hw
          exact .inr (.inr (.inr (.inl ⟨x, rfl⟩)))
        split at h
        · rename_i hw
          split at h
          · rename_i es
            simp only [Bool.and_eq_true, decide_eq_true_eq] at h
            rcases hw with rfl | rfl
            · exact .inr (.inr (.inr (.inr (.inl ⟨true, es, rfl, h.1, h.2⟩))))
            · exact .inr (.inr (.inr (.inr (.inl ⟨false, es, rfl, h.1, h.2⟩))))
          · cases h
        · cases h
      · cases h
  · cases h
@[simp] theorem inner_yes : inner (.tup [.str "yes"]) = [] := by simp [inner]
@[simp] theorem inner_no : inner (.tup [.str "no"]) = [] := by simp [inner]
@[simp] theorem inner_wish {e : D} : inner (.tup [.str "wish", e]) = [] := by simp [inner]
@[simp] theorem inner_not {e : D} : inner (.tup [.str "not", e]) = [e] := by simp [inner]
@[simp] theorem inner_and {es : List D} : inner (.tup [.str "and", .tup es]) = es := by simp [inner]
@[simp] theorem inner_or {es : List D} : inner (.tup [.str "or", .tup es]) = es := by simp [inner]
@[simp] theorem inner_cases {ps : List (D × D)} {e : D} : inner (.tup [.str "cases", .tup (ps.map fun p => .tup [p.1, p.2]), e]) = (ps.flatMap fun p => [p.1, p.2]) ++ [e] := by
  simp [inner, List.flatMap_map, pairOf]
theorem Dat.pair {n : Nat} {a b : D} (h : Dat n (.tup [a, b])) : Dat n a ∧ Dat n b := ⟨h.of_tup a (by simp), h.of_tup b (by simp)⟩
theorem inner_dat {n : Nat} {many : Int} {d : D} (h : Dat n d) (hf : formOk many d = true) : ∀ e ∈ inner d, Dat n e := by
  rcases form_cases hf with rfl | rfl | ⟨k, _, _, rfl⟩ | ⟨e, rfl⟩ | ⟨w, es, rfl, _⟩ | ⟨ps, e, rfl, _⟩
  · intro e he; rw [inner_yes] at he; cases he
  · intro e he; rw [inner_no] at he; cases he
  · intro e he; rw [inner_wish] at he; cases he
  · intro e' he
    rw [inner_not, List.mem_singleton] at he
    subst he
    exact h.of_tup _ (by simp)
  · have h2 : Dat n (.tup es) := h.of_tup _ (by simp)
    cases w
    · intro e he
      simp only [Bool.false_eq_true, if_false, inner_or] at he
      exact h2.of_tup e he
    · intro e he
      simp only [if_true, inner_and] at he
      exact h2.of_tup e he
  · have h2 := h.of_tup (.tup (ps.map fun p => .tup [p.1, p.2])) (by simp)
    intro e' he
    rw [inner_cases] at he
    rcases List.mem_append.mp he with he | he
    · obtain ⟨p, hp, hq⟩ := List.mem_flatMap.mp he
      have h3 := (h2.of_tup (.tup [p.1, p.2]) (List.mem_map.mpr ⟨p, hp, rfl⟩)).pair
      simp only [List.mem_cons, List.not_mem_nil, or_false] at hq
      rcases hq with rfl | rfl
      · exact h3.1
      · exact h3.2
    · rw [List.mem_singleton.mp he]
      exact h.of_tup _ (by simp)
theorem inner_len {many : Int} {d : D} (hf : formOk many d = true) : (inner d).length ≤ 9 := by
  rcases form_cases hf with rfl | rfl | ⟨k, _, _, rfl⟩ | ⟨e, rfl⟩ | ⟨w, es, rfl, _, h⟩ | ⟨ps, e, rfl, _, h⟩
  · simp
  · simp
  · simp
  · simp
  · cases w <;> simp <;> omega
  · have : ∀ ps : List (D × D), (ps.flatMap fun p => [p.1, p.2]).length = 2 * ps.length := fun ps => by
      induction ps with
      | nil => rfl
      | cons p ps ih => simp at ih ⊢; omega
    rw [inner_cases, List.length_append, this]
    simp; omega
theorem inner_parts_ok {many : Int} {k : Nat} {d : D} (hd : Dat k d) (hf : formOk many d = true) (A : List O) : m_inner_parts [d] A = .ok (.lst (inner d)) A := by
  have hnr : (inner d).all noR = true := List.all_eq_true.mpr fun e he => (inner_dat hd hf e he).noR
  rcases form_cases hf with rfl | rfl | ⟨k, _, _, rfl⟩ | ⟨e, rfl⟩ | ⟨w, es, rfl, _, h⟩ | ⟨ps, e, rfl, _, h⟩
  · simp [m_inner_parts, b_inner_parts]
  · simp [m_inner_parts, b_inner_parts]
  · simp [m_inner_parts, b_inner_parts]
  · simp [m_inner_parts, b_inner_parts]
  · have hl : es.length < 16777216 := by omega
    cases w
    · simp [m_inner_parts, b_inner_parts, hl]
    · simp [m_inner_parts, b_inner_parts, hl]
  · have LP : ∀ (ps : List (D × D)) (c x y : Option D) (fs : List D), fs.length + 2 * ps.length ≤ 1000 → ∃ x' y', forD (fun _ => True) (tgT 2 (tgsCons (tgN 2) (tgsCons (tgN 3) tgsNil))) (sExpr (mMeth isL fExtend (mVar 1) (mArgs (mA (newL true) (mArgs (mVar 2) (mArgs (mVar 3) mArgs0))) mArgs0))) (ps.map fun p => .tup [p.1, p.2]) [c, some (.ref A.length), x, y] (A ++ [.lst fs]) = .ok (.nx [c, some (.ref A.length), x', y']) (A ++ [.lst (fs ++ ps.flatMap fun p => [p.1, p.2])]) := fun ps => by
      induction ps with
      | nil => intro c x y fs _; exact ⟨x, y, by simp [forD]⟩
      | cons p ps ih =>
        intro c x y fs hl
        simp only [List.length_cons] at hl
        obtain ⟨x', y', e'⟩ := ih c (some p.1) (some p.2) (fs ++ [p.1, p.2]) (by simp; omega)
        refine ⟨x', y', ?_⟩
        have hex := fExtend_e (l := A.length) (A := A ++ [.lst fs]) (ds := fs) (es := [p.1, p.2]) (y := .lst [p.1, p.2]) (by simp) rfl (by simp; omega)
        rw [List.map_cons, forD, if_pos trivial]
        simp [hex, e']
    obtain ⟨x', y', e'⟩ := LP ps (some (.tup [.str "cases", .tup (ps.map fun p => .tup [p.1, p.2]), e])) none none [] (by simp; omega)
    have hl2 : ((ps.flatMap fun p => [p.1, p.2]) ++ [e]).length < 16777216 := by
      have := inner_len hf
      rw [inner_cases] at this
      omega
    rw [inner_cases] at hnr
    simp only [List.nil_append] at e'
    simp only [List.length_append, List.length_cons, List.length_nil, Nat.zero_add] at hl2
    rw [inner_cases]
    revert e' hl2 hnr
    generalize (ps.flatMap fun p => [p.1, p.2]) = fs
    intro hnr e' hl2
    have ht := trimR_app (A := A) (B := [.lst fs]) (d := .lst (fs ++ [e])) (by rw [noR_lst]; exact hnr)
    simp [m_inner_parts, b_inner_parts, e', hl2, ht, -trimR_app]
end Mb
end
section
set_option Elab.async false
set_option linter.all false
set_option maxRecDepth 100000
set_option maxHeartbeats 4000000
namespace Mb
open PySem PySem.Spec L2 Vi
def partsD (many : Int) (n : Nat) (d : D) : D := if okF many n d = true ∧ szF n d ≤ 60 then .int (szF n d) else .non
theorem parts_ok {many : Int} {k : Nat} (hk : k ≤ 64) : ∀ (f n : Nat) (room : Int) (d : D) (A : List O), n < f → room = (n : Int) → Dat k d → m_parts_of f [d, .int many, .int room] A = .ok (partsD many n d) A
  | f + 1, 0, room, d, A, _, hr, hd => by
    have h0 : room < 1 := by omega
    rw [show m_parts_of (f + 1) = runB 6 (b_parts_of (m_parts_of f)) from rfl]
    simp [b_parts_of, h0, partsD, okF]
  | f + 1, n + 1, room, d, A, hf, hr, hd => by
    have h0 : ¬ room < 1 := by omega
    rw [show m_parts_of (f + 1) = runB 6 (b_parts_of (m_parts_of f)) from rfl]
    have ef := fun A => is_form_ok (A := A) (many := many) hd hk
    cases hfo : formOk many d with
    | false =>
      rw [hfo] at ef
      simp [b_parts_of, h0, partsD, okF, ef, hfo]
    | true =>
      rw [hfo] at ef
      have ei := inner_parts_ok hd hfo A
      have hin := inner_dat hd hfo
      have LP : ∀ (ds : List D) (g : Nat) (A : List O) (x y : Option D), (∀ e ∈ ds, Dat k e) → g ≤ 60 → ∃ x' y', forD (fun _ => True) (tgN 4) (sSeq (sSet 5 (mCall (m_parts_of f) [] (mArgs (mVar 4) (mArgs (mVar 1) (mArgs (m2 dSub (mVar 2) (mC (.int 1))) mArgs0)))))
  (sSeq (sIf (mOrT (mBl (m2 dIs (mVar 5) (mC .non))) (mBl (m2 dGt (m2 (dAdd true) (mVar 3) (mVar 5)) (mC (.int 60)))))
  (sRet (mC .non))
  sPass)
  (sAug 3 dAddI (mVar 5)))) ds [some d, some (.int many), some (.int room), some (.int g), x, y] A =
          if ds.all (okF many n) = true ∧ g + (ds.map (szF n)).sum ≤ 60 then .ok (.nx [some d, some (.int many), some (.int room), some (.int ((g + (ds.map (szF n)).sum : Nat) : Int))  , x', y']) A else .ok (.rt .non) A := fun ds => by
        induction ds with
        | nil => intro g A x y _ hg; exact ⟨x, y, by simp [forD, hg]⟩
        | cons e ds ih =>
          intro g A x y hds hg
          have ee := parts_ok (many := many) hk f n (room - 1) e A (by omega) (by omega) (hds e (List.mem_cons_self ..))
          by_cases hp : okF many n e = true ∧ szF n e ≤ 60
          · rw [partsD, if_pos hp] at ee
            by_cases hs : g + szF n e ≤ 60
            · obtain ⟨x', y', e2⟩ := ih (g + szF n e) A (some e) (some (.int (szF n e))) (fun e' he => hds e' (List.mem_cons_of_mem _ he)) hs
              refine ⟨x', y', ?_⟩
              have h60 : ¬ (60 : Int) < (g : Int) + szF n e := by omega
              rw [forD, if_pos trivial]
              have e3 : (((g + szF n e : Nat) : Int)) = (g : Int) + szF n e := by omega
              rw [e3] at e2
              simp [ee, h60, e2, hp.1, Nat.add_assoc]
            · refine ⟨x, y, ?_⟩
              have h60 : (60 : Int) < (g : Int) + szF n e := by omega
              have hn : ¬ (((e :: ds).all (okF many n)) = true ∧ g + ((e :: ds).map (szF n)).sum ≤ 60) := by
                rintro ⟨_, h⟩
                simp only [List.map_cons, List.sum_cons] at h
                omega
              rw [if_neg hn, forD, if_pos trivial]
              simp [ee, h60]
          · rw [partsD, if_neg hp] at ee
            refine ⟨x, y, ?_⟩
            have hn : ¬ (((e :: ds).all (okF many n)) = true ∧ g + ((e :: ds).map (szF n)).sum ≤ 60) := by
              rintro ⟨h, h'⟩
              simp only [List.map_cons, List.sum_cons] at h'
              simp only [List.all_cons, Bool.and_eq_true] at h
              exact hp ⟨h.1, by omega⟩
            rw [if_neg hn, forD, if_pos trivial]
            simp [ee]
      obtain ⟨x', y', e⟩ := LP (inner d) 1 A none none hin (by omega)
      have e0 : ((1 : Nat) : Int) = 1 := rfl
      rw [e0] at e
      by_cases hc : (inner d).all (okF many n) = true ∧ 1 + ((inner d).map (szF n)).sum ≤ 60
      · have e1 : partsD many (n + 1) d = .int ((1 + ((inner d).map (szF n)).sum : Nat) : Int) := by
          rw [partsD, if_pos ⟨by rw [okF, hfo, hc.1]; rfl, by rw [szF]; exact hc.2⟩, szF]
        rw [if_pos hc] at e
        rw [e1]
        simp [b_parts_of, h0, ef, ei, e]
      · have e1 : partsD many (n + 1) d = .non := by
          rw [partsD, if_neg]
          rintro ⟨h1, h2⟩
          rw [okF, hfo, Bool.true_and] at h1
          rw [szF] at h2
          exact hc ⟨h1, h2⟩
        rw [if_neg hc] at e
        rw [e1]
        simp [b_parts_of, h0, ef, ei, e]
def isDec (many : Int) (d : D) : Bool := okF many 12 d && decide (szF 12 d ≤ 60)
theorem is_decision_ok {many : Int} {k : Nat} (hk : k ≤ 64) {d : D} (hd : Dat k d) (A : List O) : m_is_decision [d, .int many] A = .ok (.bl (isDec many d)) A := by
  have e := parts_ok (many := many) hk 16 12 12 d A (by decide) rfl hd
  by_cases h : okF many 12 d = true ∧ szF 12 d ≤ 60
  · rw [partsD, if_pos h] at e
    simp [m_is_decision, b_is_decision, e, isDec, h.1, h.2]
  · rw [partsD, if_neg h] at e
    have : isDec many d = false := by
      unfold isDec
      rw [Bool.eq_false_iff]
      intro h2
      simp only [Bool.and_eq_true, decide_eq_true_eq] at h2
      exact h h2
    simp [m_is_decision, b_is_decision, e, this]
end Mb
end
section
set_option Elab.async false
set_option linter.all false
set_option maxRecDepth 100000
set_option maxHeartbeats 4000000
namespace Mb
open PySem PySem.Spec L2 Vi
noncomputable def b_is_row : SM :=
  (sRet (mAnd (mA fIsi (mArgs (mVar 0) (mArgs (mC (.ty .tuple)) mArgs0))) (mAnd (m2 dEq (mA fLen (mArgs (mVar 0) mArgs0)) (mVar 1)) (mA fAll (mArgs (mLc true (mSrc (mVar 0)) (tgN 2) mYes (mA fIsi (mArgs (mVar 2) (mArgs (mC (.ty .bool)) mArgs0))) [2]) mArgs0)))))
noncomputable def m_is_row : List D → List O → R D := runB 3 b_is_row
noncomputable def b_all_rows_1 : SM :=
  (sExpr (mMeth isL fExtend (mVar 3) (mArgs (mA (newL true) (mArgs (m2 (dAdd true) (mVar 4) (mA fTup (mArgs (mC (.bl false)) mArgs0))) (mArgs (m2 (dAdd true) (mVar 4) (mA fTup (mArgs (mC (.bl true)) mArgs0))) mArgs0))) mArgs0)))
noncomputable def b_all_rows_2 : SM :=
  (sSeq (sSet 3 (mA (newL false) mArgs0))
  (sSeq (sFor (mSrc (mVar 1)) (tgN 4)
  b_all_rows_1)
  (sSet 1 (mVar 3))))
noncomputable def b_all_rows : SM :=
  (sSeq (sSet 1 (mA (newL true) (mArgs (mA fTup mArgs0) mArgs0)))
  (sSeq (sFor (mSrcA fRange1 (mArgs (mVar 0) mArgs0)) (tgN 2)
  b_all_rows_2)
  (sRet (mVar 1))))
noncomputable def m_all_rows : List D → List O → R D := runB 5 b_all_rows
noncomputable def b_look_at_rows_1 : SM :=
  (sSeq (sIf (mOrT (mNotT (mTru (mCall m_is_row [] (mArgs (mVar 4) (mArgs (mVar 0) mArgs0))))) (mBl (m2 (dInT false) (mVar 4) (mVar 2))))
  (sRaiseX "NoCase" ["part", "place"] (mArgs (mC (.str "rows")) (mArgs (mVar 3) mArgs0)))
  sPass)
  (sAsg (mC (.bl true)) (tgSubT (mVar 2) (mVar 4))))
noncomputable def b_look_at_rows : SM :=
  (sSeq (sIf (mOrT (mNotT (mTru (mA fIsi (mArgs (mVar 1) (mArgs (mC (.ty .list)) mArgs0))))) (mBl (m2 dEq (mVar 1) (mA (newL true) mArgs0))))
  (sRaiseX "NoCase" ["part", "place"] (mArgs (mC (.str "rows")) (mArgs (mC .non) mArgs0)))
  sPass)
  (sSeq (sSet 2 mDict0)
  (sFor (mSrcA fEnum (mArgs (mVar 1) mArgs0)) (tgT 2 (tgsCons (tgN 3) (tgsCons (tgN 4) tgsNil)))
  b_look_at_rows_1)))
noncomputable def m_look_at_rows : List D → List O → R D := runB 5 b_look_at_rows
noncomputable def b_Case_init_1 : SM :=
  (sAsg (mCall (m_answer 34) [] (mArgs (mVar 2) (mArgs (mVar 4) mArgs0))) (tgSubT (m1 (dFld "Case" "case_rows") (mVar 0)) (mVar 4)))
noncomputable def b_Case_init : SM :=
  (sSeq (sIf (mNotT (mTru (mCall m_is_within [] (mArgs (mVar 1) (mArgs (mC (.int 1)) (mArgs (mC (.int 8)) mArgs0))))))
  (sRaiseX "NoCase" ["part", "place"] (mArgs (mC (.str "many")) (mArgs (mC .non) mArgs0)))
  sPass)
  (sSeq (sIf (mNotT (mTru (mCall m_is_decision [] (mArgs (mVar 2) (mArgs (mVar 1) mArgs0)))))
  (sRaiseX "NoCase" ["part", "place"] (mArgs (mC (.str "decision")) (mArgs (mC .non) mArgs0)))
  sPass)
  (sSeq (sIf (mBl (m2 dIsNot (mVar 3) (mC .non)))
  (sExpr (mCall m_look_at_rows [] (mArgs (mVar 1) (mArgs (mVar 3) mArgs0))))
  sPass)
  (sSeq (sFldD "Case" "case_many" (mVar 0) (mVar 1))
  (sSeq (sFldD "Case" "case_decision" (mVar 0) (mVar 2))
  (sSeq (sFldD "Case" "case_rows" (mVar 0) mDict0)
  (sFor (mSrc (mA (fSorted true) (mArgs (mIte (mBl (m2 dIs (mVar 3) (mC .non))) (mCall m_all_rows [] (mArgs (mVar 1) mArgs0)) (mVar 3)) mArgs0))) (tgN 4)
  b_Case_init_1)))))))
noncomputable def m_Case_init : List D → List O → R D := runB 5 b_Case_init
noncomputable def b_Case_many : SM :=
  (sRet (m1 (dFld "Case" "case_many") (mVar 0)))
noncomputable def m_Case_many : List D → List O → R D := runB 1 b_Case_many
noncomputable def b_Case_look_at_row : SM :=
  (sIf (mNotT (mTru (mCall m_is_row [] (mArgs (mVar 1) (mArgs (m1 (dFld "Case" "case_many") (mVar 0)) mArgs0)))))
  (sRaise "NoRow")
  sPass)
noncomputable def m_Case_look_at_row : List D → List O → R D := runB 2 b_Case_look_at_row
noncomputable def b_Case_can_be : SM :=
  (sSeq (sExpr (mMethC "Case" "look_at_row" m_Case_look_at_row [] (mVar 0) (mArgs (mVar 1) mArgs0)))
  (sRet (m2 (dInT false) (mVar 1) (m1 (dFld "Case" "case_rows") (mVar 0)))))
noncomputable def m_Case_can_be : List D → List O → R D := runB 2 b_Case_can_be
end Mb
end
section
set_option Elab.async false
set_option linter.all false
set_option maxRecDepth 100000
set_option maxHeartbeats 4000000
namespace Vi
open PySem PySem.Spec L2
/-! loops over a list that is a map, by what stands behind each prefix -/
theorem forD_pre {α : Type} {ok : List O → Prop} {tg : TgM} {body : SM} {f : α → D} (I : List α → Env → List O → Prop) (hok : ∀ p σ A, I p σ A → ok A) :
    ∀ {xs pre : List α} {σ : Env} {A : List O}, I pre σ A →
    (∀ p x s, pre ++ xs = p ++ x :: s → ∀ σ A, I p σ A → ∃ σ1 A1 σ2 A2, tg (f x) σ A = .ok σ1 A1 ∧ (body σ1 A1 = .ok (.nx σ2) A2 ∨ body σ1 A1 = .ok (.ct σ2) A2) ∧ I (p ++ [x]) σ2 A2) →
    ∃ σ' A', forD ok tg body (xs.map f) σ A = .ok (.nx σ') A' ∧ I (pre ++ xs) σ' A'
  | [], pre, σ, A, hI, _ => ⟨σ, A, by rw [List.map_nil, forD, if_pos (hok _ _ _ hI)], by rw [List.append_nil]; exact hI⟩
  | x :: xs, pre, σ, A, hI, hs => by
    obtain ⟨σ1, A1, σ2, A2, e1, e2, hI2⟩ := hs pre x xs rfl σ A hI
    obtain ⟨σ3, A3, e3, hI3⟩ := forD_pre (xs := xs) (pre := pre ++ [x]) I hok hI2 fun p y s e => hs p y s (by rw [← e]; simp)
    refine ⟨σ3, A3, ?_, by simpa using hI3⟩
    rw [List.map_cons, forD, if_pos (hok _ _ _ hI), e1]
    rcases e2 with e2 | e2 <;> simp only [e2, e3]
/-- the same, from the start -/
theorem forD_p {α : Type} {ok : List O → Prop} {tg : TgM} {body : SM} {f : α → D} {xs : List α} {σ : Env} {A : List O} (I : List α → Env → List O → Prop) (hok : ∀ p σ A, I p σ A → ok A) (h0 : I [] σ A)
    (hs : ∀ p x s, xs = p ++ x :: s → ∀ σ A, I p σ A → ∃ σ1 A1 σ2 A2, tg (f x) σ A = .ok σ1 A1 ∧ (body σ1 A1 = .ok (.nx σ2) A2 ∨ body σ1 A1 = .ok (.ct σ2) A2) ∧ I (p ++ [x]) σ2 A2) :
    ∃ σ' A', forD ok tg body (xs.map f) σ A = .ok (.nx σ') A' ∧ I xs σ' A' := by
  have := forD_pre (xs := xs) (pre := []) I hok h0 (fun p x s e => hs p x s (by simpa using e))
  simpa using this
/-- a comprehension over a list that is a map -/
theorem lcD_f {α : Type} {ok : List O → Prop} {tg : TgM} {mt : M Bool} {me : M D} {σ : Env} {A : List O} {f : α → D} (p : α → Bool) (g : α → D) {xs : List α} (hok : ok A) (hl : xs.length ≤ 16777216)
    (hs : ∀ x ∈ xs, ∃ σ1, tg (f x) σ A = .ok σ1 A ∧ mt σ1 A = .ok (p x) A ∧ (p x = true → me σ1 A = .ok (g x) A)) :
    lcD ok tg mt me σ (xs.map f) [] A = .ok ((xs.filter p).map g) A := by
  have key : ∀ (xs : List α) (acc : List D), acc.length + xs.length ≤ 16777216 → (∀ x ∈ xs, ∃ σ1, tg (f x) σ A = .ok σ1 A ∧ mt σ1 A = .ok (p x) A ∧ (p x = true → me σ1 A = .ok (g x) A)) → lcD ok tg mt me σ (xs.map f) acc A = .ok (acc ++ (xs.filter p).map g) A := by
    intro xs
    induction xs with
    | nil => intro acc _ _; rw [List.map_nil, lcD, if_pos hok]; simp
    | cons x xs ih =>
      intro acc hl hs
      obtain ⟨σ1, e1, e2, e3⟩ := hs x (List.mem_cons_self ..)
      have hl2 : acc.length < sizeLine := by rw [sizeLine_eq]; simp only [List.length_cons] at hl; omega
      rw [List.map_cons, lcD, if_pos ⟨hok, hl2⟩, e1]
      simp only [e2]
      cases hp : p x with
      | true =>
        simp only [e3 hp]
        rw [ih (acc ++ [g x]) (by simp only [List.length_append, List.length_cons, List.length_nil] at hl ⊢; omega) fun y h => hs y (List.mem_cons_of_mem _ h)]
        simp [List.filter, hp]
      | false =>
        simp only
        rw [ih acc (by simp only [List.length_cons] at hl; omega) fun y h => hs y (List.mem_cons_of_mem _ h)]
        simp [List.filter, hp]
  have := key xs [] (by simpa using hl) hs
  simpa using this
theorem lcD_m {α : Type} {ok : List O → Prop} {tg : TgM} {me : M D} {σ : Env} {A : List O} {f : α → D} (g : α → D) {xs : List α} (hok : ok A) (hl : xs.length ≤ 16777216)
    (hs : ∀ x ∈ xs, ∃ σ1, tg (f x) σ A = .ok σ1 A ∧ me σ1 A = .ok (g x) A) : lcD ok tg mYes me σ (xs.map f) [] A = .ok (xs.map g) A := by
  rw [lcD_f (fun _ => true) g hok hl fun x hx => ?_]
  · rw [List.filter_eq_self.mpr (fun _ _ => rfl)]
  · obtain ⟨σ1, e1, e2⟩ := hs x hx
    exact ⟨σ1, e1, rfl, fun _ => e2⟩
/-! data that == tells apart just where they are unlike -/
structure EqD {α : Type} [DecidableEq α] (k : Nat) (ok : α → Prop) (f : α → D) (g : α → PyData) : Prop where
  py : ∀ a, ok a → ∀ A j, k ≤ j → py A j (f a) = some (g a)
  lay : ∀ a, ok a → (g a).canLay0 = true
  dep : ∀ a, ok a → (g a).depth ≤ k
  eqv : ∀ a b, ok a → ok b → PyData.eqv (g a) (g b) = decide (a = b)
section
variable {α β : Type} [DecidableEq α] [DecidableEq β] {k j : Nat} {ok : α → Prop} {f : α → D} {g : α → PyData} {ok2 : β → Prop} {f2 : β → D} {g2 : β → PyData}
theorem EqD.pys (E : EqD k ok f g) {A : List O} {j : Nat} (hj : k ≤ j) : ∀ {l : List α}, (∀ a ∈ l, ok a) → Vi.pys (Vi.py A j) (l.map f) = some (l.map g)
  | [], _ => rfl
  | a :: l, h => by rw [List.map_cons, Vi.pys, E.py a (h a (List.mem_cons_self ..)) A j hj, E.pys hj fun b hb => h b (List.mem_cons_of_mem _ hb)]; rfl
theorem EqD.lays (E : EqD k ok f g) : ∀ {l : List α}, (∀ a ∈ l, ok a) → PyData.canLayAll0 (l.map g) = true
  | [], _ => rfl
  | a :: l, h => by rw [List.map_cons, PyData.canLayAll0, E.lay a (h a (List.mem_cons_self ..)), E.lays fun b hb => h b (List.mem_cons_of_mem _ hb)]; rfl
theorem EqD.deps (E : EqD k ok f g) : ∀ {l : List α}, (∀ a ∈ l, ok a) → PyData.depthAll (l.map g) ≤ k
  | [], _ => Nat.zero_le _
  | a :: l, h => by
    rw [List.map_cons, PyData.depthAll]
    have h1 := E.dep a (h a (List.mem_cons_self ..))
    have h2 := E.deps (l := l) fun b hb => h b (List.mem_cons_of_mem _ hb)
    omega
theorem EqD.eqvs (E : EqD k ok f g) : ∀ {l m : List α}, (∀ a ∈ l, ok a) → (∀ a ∈ m, ok a) → PyData.eqvAll (l.map g) (m.map g) = decide (l = m)
  | [], [], _, _ => by simp [PyData.eqvAll]
  | [], b :: m, _, _ => by simp [PyData.eqvAll]
  | a :: l, [], _, _ => by simp [PyData.eqvAll]
  | a :: l, b :: m, h1, h2 => by
    rw [List.map_cons, List.map_cons, PyData.eqvAll, E.eqv a b (h1 a (List.mem_cons_self ..)) (h2 b (List.mem_cons_self ..)), E.eqvs (fun c hc => h1 c (List.mem_cons_of_mem _ hc)) fun c hc => h2 c (List.mem_cons_of_mem _ hc)]
    simp
theorem EqD.tup (E : EqD k ok f g) : EqD (k + 1) (fun l : List α => ∀ a ∈ l, ok a) (fun l => .tup (l.map f)) (fun l => .tuple (l.map g)) := by
  refine ⟨fun l h A j hj => ?_, fun l h => by simpa [PyData.canLay0] using E.lays h, fun l h => by simpa [PyData.depth] using E.deps h, fun l m h1 h2 => by simpa [PyData.eqv] using E.eqvs h1 h2⟩
  obtain ⟨i, rfl⟩ : ∃ i, j = i + 1 := ⟨j - 1, by omega⟩
  show (Vi.pys (Vi.py A i) (l.map f)).map _ = _
  rw [E.pys (by omega) h]; rfl
theorem EqD.lst (E : EqD k ok f g) : EqD (k + 1) (fun l : List α => ∀ a ∈ l, ok a) (fun l => .lst (l.map f)) (fun l => .list (l.map g)) := by
  refine ⟨fun l h A j hj => ?_, fun l h => by simpa [PyData.canLay0] using E.lays h, fun l h => by simpa [PyData.depth] using E.deps h, fun l m h1 h2 => by simpa [PyData.eqv] using E.eqvs h1 h2⟩
  obtain ⟨i, rfl⟩ : ∃ i, j = i + 1 := ⟨j - 1, by omega⟩
  show (Vi.pys (Vi.py A i) (l.map f)).map _ = _
  rw [E.pys (by omega) h]; rfl
theorem EqD.pair (E : EqD k ok f g) (E2 : EqD k ok2 f2 g2) : EqD (k + 1) (fun p : α × β => ok p.1 ∧ ok2 p.2) (fun p => .tup [f p.1, f2 p.2]) (fun p => .tuple [g p.1, g2 p.2]) := by
  refine ⟨fun p h A j hj => ?_, fun p h => by simp [PyData.canLay0, PyData.canLayAll0, E.lay _ h.1, E2.lay _ h.2], fun p h => ?_, fun p q h1 h2 => ?_⟩
  · obtain ⟨i, rfl⟩ : ∃ i, j = i + 1 := ⟨j - 1, by omega⟩
    show (Vi.pys (Vi.py A i) [f p.1, f2 p.2]).map _ = _
    rw [Vi.pys, E.py _ h.1 A i (by omega), Vi.pys, E2.py _ h.2 A i (by omega)]; rfl
  · have h1 := E.dep _ h.1
    have h2 := E2.dep _ h.2
    simp only [PyData.depth, PyData.depthAll]
    omega
  · simp only [PyData.eqv, PyData.eqvAll, E.eqv _ _ h1.1 h2.1, E2.eqv _ _ h1.2 h2.2, Bool.and_true]
    cases p; cases q; simp
theorem EqD.shp (E : EqD k ok f g) (hk : k ≤ 64) {a : α} (ha : ok a) : SeqAt.shaped (g a) = true := by
  unfold SeqAt.shaped
  rw [E.lay a ha, decide_eq_true (Nat.le_trans (E.dep a ha) hk)]; rfl
theorem EqD.eqD (E : EqD k ok f g) (hk : k ≤ 64) {a b : α} (ha : ok a) (hb : ok b) (A : List O) : dEqD (f a) (f b) A = .ok (.bl (decide (a = b))) A := by
  unfold dEqD
  rw [E.py a ha A 64 hk, E.py b hb A 64 hk]
  simp only [E.shp hk ha, E.shp hk hb, Bool.and_self, if_true, E.eqv a b ha hb]
end
theorem eqD_bl : EqD 0 (fun _ : Bool => True) D.bl PyData.bool := ⟨fun a _ A j _ => by cases j <;> rfl, fun _ _ => rfl, fun _ _ => Nat.zero_le _, fun a b _ _ => by simp only [PyData.eqv]; cases a <;> cases b <;> rfl⟩
/-! the same, of lists in sight -/
theorem dEq_l {x y : D} {A : List O} {r : R D} (h : dEqD x y A = r) (hx : ∀ s, x ≠ .str s) : dEq x y A = r := by
  unfold dEq
  split
  · exact absurd rfl (hx _)
  · exact h
theorem dNe_l {x y : D} {A : List O} {r : R D} (h : dNeD x y A = r) (hx : ∀ s, x ≠ .str s) : dNe x y A = r := by
  unfold dNe
  split
  · exact absurd rfl (hx _)
  · exact h
end Vi
namespace Mb
open PySem PySem.Spec L2 Vi
theorem eqD_row : EqD 1 (fun _ : List Bool => True) rowD (fun r => .tuple (r.map PyData.bool)) := by
  have h := eqD_bl.tup
  exact ⟨fun a _ => h.py a fun _ _ => trivial, fun a _ => h.lay a fun _ _ => trivial, fun a _ => h.dep a fun _ _ => trivial, fun a b _ _ => h.eqv a b (fun _ _ => trivial) fun _ _ => trivial⟩
def pairD (p : List Bool × List Bool) : D := .tup [rowD p.1, rowD p.2]
section
variable {A : List O} {r s : List Bool} {rs : List (List Bool)} {p q : List Bool × List Bool} {ps qs : List (List Bool × List Bool)} {neg : Bool}
theorem rows_eq {ss : List (List Bool)} : dEq (.lst (rs.map rowD)) (.lst (ss.map rowD)) A = .ok (.bl (decide (rs = ss))) A := dEq_l (eqD_row.lst.eqD (by decide) (fun _ _ => trivial) (fun _ _ => trivial) A) fun _ h => nomatch h
theorem rows_nil : dEq (.lst (rs.map rowD)) (.lst []) A = .ok (.bl rs.isEmpty) A := by
  have := rows_eq (rs := rs) (ss := []) (A := A)
  rw [List.map_nil] at this
  rw [this]
  cases rs <;> rfl
@[simp] theorem noR_row : noR (rowD r) = true := by simp [rowD]
@[simp] theorem noR_pair : noR (pairD p) = true := by simp [pairD]
end
end Mb
end
section
set_option Elab.async false
set_option linter.all false
set_option maxRecDepth 100000
set_option maxHeartbeats 4000000
namespace Vi
open PySem PySem.Spec L2
section
variable {A : List O} {b : Bool} {i : Int} {s : Str} {ds : List D}
@[simp] theorem isi_n_int : fIsi [.non, .ty .int] A = .ok (.bl false) A := rfl
@[simp] theorem isi_n_bool : fIsi [.non, .ty .bool] A = .ok (.bl false) A := rfl
@[simp] theorem isi_n_str : fIsi [.non, .ty .str] A = .ok (.bl false) A := rfl
@[simp] theorem isi_n_list : fIsi [.non, .ty .list] A = .ok (.bl false) A := rfl
@[simp] theorem isi_n_tuple : fIsi [.non, .ty .tuple] A = .ok (.bl false) A := rfl
@[simp] theorem isi_n_dict : fIsi [.non, .ty .dict] A = .ok (.bl false) A := rfl
@[simp] theorem isi_b_int : fIsi [.bl b, .ty .int] A = .ok (.bl true) A := rfl
@[simp] theorem isi_b_bool : fIsi [.bl b, .ty .bool] A = .ok (.bl true) A := rfl
@[simp] theorem isi_b_str : fIsi [.bl b, .ty .str] A = .ok (.bl false) A := rfl
@[simp] theorem isi_b_list : fIsi [.bl b, .ty .list] A = .ok (.bl false) A := rfl
@[simp] theorem isi_b_tuple : fIsi [.bl b, .ty .tuple] A = .ok (.bl false) A := rfl
@[simp] theorem isi_b_dict : fIsi [.bl b, .ty .dict] A = .ok (.bl false) A := rfl
@[simp] theorem isi_i_int : fIsi [.int i, .ty .int] A = .ok (.bl true) A := rfl
@[simp] theorem isi_i_bool : fIsi [.int i, .ty .bool] A = .ok (.bl false) A := rfl
@[simp] theorem isi_i_str : fIsi [.int i, .ty .str] A = .ok (.bl false) A := rfl
@[simp] theorem isi_i_list : fIsi [.int i, .ty .list] A = .ok (.bl false) A := rfl
@[simp] theorem isi_i_tuple : fIsi [.int i, .ty .tuple] A = .ok (.bl false) A := rfl
@[simp] theorem isi_i_dict : fIsi [.int i, .ty .dict] A = .ok (.bl false) A := rfl
@[simp] theorem isi_s_int : fIsi [.str s, .ty .int] A = .ok (.bl false) A := rfl
@[simp] theorem isi_s_bool : fIsi [.str s, .ty .bool] A = .ok (.bl false) A := rfl
@[simp] theorem isi_s_str : fIsi [.str s, .ty .str] A = .ok (.bl true) A := rfl
@[simp] theorem isi_s_list : fIsi [.str s, .ty .list] A = .ok (.bl false) A := rfl
@[simp] theorem isi_s_tuple : fIsi [.str s, .ty .tuple] A = .ok (.bl false) A := rfl
@[simp] theorem isi_s_dict : fIsi [.str s, .ty .dict] A = .ok (.bl false) A := rfl
@[simp] theorem isi_t_int : fIsi [.tup ds, .ty .int] A = .ok (.bl false) A := rfl
@[simp] theorem isi_t_bool : fIsi [.tup ds, .ty .bool] A = .ok (.bl false) A := rfl
@[simp] theorem isi_t_str : fIsi [.tup ds, .ty .str] A = .ok (.bl false) A := rfl
@[simp] theorem isi_t_list : fIsi [.tup ds, .ty .list] A = .ok (.bl false) A := rfl
@[simp] theorem isi_t_tuple : fIsi [.tup ds, .ty .tuple] A = .ok (.bl true) A := rfl
@[simp] theorem isi_t_dict : fIsi [.tup ds, .ty .dict] A = .ok (.bl false) A := rfl
@[simp] theorem isi_l_int : fIsi [.lst ds, .ty .int] A = .ok (.bl false) A := rfl
@[simp] theorem isi_l_bool : fIsi [.lst ds, .ty .bool] A = .ok (.bl false) A := rfl
@[simp] theorem isi_l_str : fIsi [.lst ds, .ty .str] A = .ok (.bl false) A := rfl
@[simp] theorem isi_l_list : fIsi [.lst ds, .ty .list] A = .ok (.bl true) A := rfl
@[simp] theorem isi_l_tuple : fIsi [.lst ds, .ty .tuple] A = .ok (.bl false) A := rfl
@[simp] theorem isi_l_dict : fIsi [.lst ds, .ty .dict] A = .ok (.bl false) A := rfl
theorem fAll_c {α : Type} {l : List α} {p : α → Bool} : fAll [.lst (l.map fun x => .bl (p x))] A = .ok (.bl (l.all p)) A := by
  have : (l.map fun x => D.bl (p x)) = (l.map p).map D.bl := by simp
  rw [this, fAll_e]
  simp [List.all_map]
theorem enumD_map {α : Type} {f : α → D} : ∀ {l : List α} {k : Nat}, enumD k (l.map f) = (l.zipIdx k).map fun p => .tup [.int (p.2 : Nat), f p.1]
  | [], _ => rfl
  | x :: l, k => by rw [List.map_cons, enumD, enumD_map, List.zipIdx_cons, List.map_cons]
end
end Vi
namespace Mb
open PySem PySem.Spec L2 Vi
@[simp] theorem rowOf_row {r : List Bool} : Vi.rowOf (rowD r) = some r := by
  show bools (r.map D.bl) = some r
  exact bools_map r
@[simp] theorem keyK_row {r : List Bool} : keyK (rowD r) = none := rfl
theorem rowsOfD_map : ∀ {rs : List (List Bool)}, rowsOfD (rs.map rowD) = some rs
  | [] => rfl
  | r :: rs => by rw [List.map_cons, rowsOfD, rowOf_row, rowsOfD_map]; rfl
/-! rows -/
theorem is_row_ok {r : List Bool} {m : Nat} (hm : r.length ≤ 1000) {A : List O} : m_is_row [rowD r, .int m] A = .ok (.bl (decide (r.length = m))) A := by
  have e1 : lcD (fun _ => True) (tgN 2) mYes (mA fIsi (mArgs (mVar 2) (mArgs (mC (.ty .bool)) mArgs0))) [some (rowD r), some (.int (m : Int)), none] (r.map D.bl) [] A = .ok (r.map fun _ => .bl true) A :=
    lcD_m (fun _ => .bl true) trivial (by omega) fun b _ => ⟨_, tgN_e, by simp⟩
  have e2 := fAll_c (A := A) (l := r) (p := fun _ => true)
  have e3 : ((r.length : Int) == (m : Int)) = decide (r.length = m) := by
    by_cases h : r.length = m
    · simp [h]
    · simp [h]; omega
  have hl : r.length < 16777216 := by omega
  unfold rowD at e1 ⊢
  by_cases h : r.length = m
  · have hl2 : m < 16777216 := by omega
    simp [m_is_row, b_is_row, wipeD, e1, e2, hl2, h]
  · simp [m_is_row, b_is_row, wipeD, e3, h]
def wat (r : List Bool) (w : Nat) : Bool := r.getD w false
def tn (r : List Bool) (w : Nat) : List Bool := r.set w (!wat r w)
@[simp] theorem tn_len {r : List Bool} {w : Nat} : (tn r w).length = r.length := by simp [tn]
theorem dAdd_rr2 {r s : List Bool} (h : r.length + s.length ≤ 16777216) {A : List O} : dAdd true (rowD r) (rowD s) A = .ok (rowD (r ++ s)) A := by
  unfold rowD
  rw [dAdd_tt (by simpa using h), ← List.map_append]
/-! decisions that are drawn are decisions -/
theorem Dec.dat {m : Nat} : ∀ {n s : Nat} {d : D}, Dec m n s d → Dat (3 * n) d
  | n + 1, s, d, h => by
    have e3 : 3 * (n + 1) = 3 * n + 1 + 1 + 1 := by omega
    have hs : ∀ {k : Nat} {s : Str}, PyData.strOk s = true → Dat k (.str s) := fun h => Dat.str h
    rcases h with ⟨h, h2 | h2 | ⟨k, hk, h2⟩⟩ | ⟨e, t, h1, h2, h3⟩ | ⟨w, es, t, h1, h2, h3, h4, h5⟩ | ⟨ps, e, t, h1, h2, h3, h4, h5, h6⟩
    · subst h2
      exact (Dat.tup (n := 0) fun e he => by rw [List.mem_singleton.mp he]; exact hs so_0).mono (by omega)
    · subst h2
      exact (Dat.tup (n := 0) fun e he => by rw [List.mem_singleton.mp he]; exact hs so_1).mono (by omega)
    · subst h2
      refine (Dat.tup (n := 0) fun e he => ?_).mono (by omega)
      simp only [List.mem_cons, List.not_mem_nil, or_false] at he
      rcases he with rfl | rfl
      · exact hs so_2
      · exact Dat.int
    · subst h1
      refine (Dat.tup (n := 3 * n) fun x he => ?_).mono (by omega)
      simp only [List.mem_cons, List.not_mem_nil, or_false] at he
      rcases he with rfl | rfl
      · exact hs so_3
      · exact h2.dat
    · subst h1
      refine (Dat.tup (n := 3 * n + 1) fun x he => ?_).mono (by omega)
      simp only [List.mem_cons, List.not_mem_nil, or_false] at he
      rcases he with rfl | rfl
      · cases w
        · exact hs so_5
        · exact hs so_4
      · exact Dat.tup fun x hx => (h4 x hx).dat
    · subst h1
      refine (Dat.tup (n := 3 * n + 2) fun x he => ?_).mono (by omega)
      simp only [List.mem_cons, List.not_mem_nil, or_false] at he
      rcases he with rfl | rfl | rfl
      · exact hs so_6
      · refine Dat.tup (n := 3 * n + 1) fun x hx => ?_
        obtain ⟨p, hp, rfl⟩ := List.mem_map.mp hx
        refine Dat.tup fun y hy => ?_
        simp only [List.mem_cons, List.not_mem_nil, or_false] at hy
        rcases hy with rfl | rfl
        · exact (h4 p hp).1.dat
        · exact (h4 p hp).2.dat
      · exact h5.dat.mono (by omega)
theorem Dec.okF {m : Nat} : ∀ {n s : Nat} {d : D}, Dec m n s d → ∀ k, n ≤ k → okF m k d = true ∧ szF k d ≤ s
  | n + 1, s, d, h, k, hk => by
    obtain ⟨k, rfl⟩ : ∃ j, k = j + 1 := ⟨k - 1, by omega⟩
    have hk' : n ≤ k := by omega
    rw [Mb.okF, szF]
    rcases h with ⟨h, h2 | h2 | ⟨j, hj, h2⟩⟩ | ⟨e, t, h1, h2, h3⟩ | ⟨w, es, t, h1, h2, h3, h4, h5⟩ | ⟨ps, e, t, h1, h2, h3, h4, h5, h6⟩
    · subst h2; simp [formOk]; omega
    · subst h2; simp [formOk]; omega
    · subst h2; simp [formOk, within]; omega
    · subst h1
      obtain ⟨i1, i2⟩ := h2.okF k hk'
      simp [formOk, i1]; omega
    · subst h1
      have i1 : es.all (Mb.okF m k) = true := List.all_eq_true.mpr fun e he => ((h4 e he).okF k hk').1
      have i2 : (es.map (szF k)).sum ≤ es.length * t := by
        have : ∀ l : List D, (∀ e ∈ l, szF k e ≤ t) → (l.map (szF k)).sum ≤ l.length * t := by
          intro l
          induction l with
          | nil => intro _; simp
          | cons a l ih =>
            intro h
            have h1 := h a (List.mem_cons_self ..)
            have h2 := ih fun e he => h e (List.mem_cons_of_mem _ he)
            rw [List.map_cons, List.sum_cons, List.length_cons, Nat.succ_mul]; omega
        exact this es fun e he => ((h4 e he).okF k hk').2
      have hpos : 1 ≤ es.length := List.length_pos_iff.mpr h2
      cases w
      · simp only [Bool.false_eq_true, if_false, inner_or, i1, Bool.and_true]
        refine ⟨by simp [formOk, hpos, h3], by omega⟩
      · simp only [if_true, inner_and, i1, Bool.and_true]
        refine ⟨by simp [formOk, hpos, h3], by omega⟩
    · subst h1
      have hpos : 1 ≤ ps.length := List.length_pos_iff.mpr h2
      obtain ⟨j1, j2⟩ := h5.okF k hk'
      rw [inner_cases]
      have i1 : ∀ e ∈ ps.flatMap fun p => [p.1, p.2], Mb.okF m k e = true ∧ szF k e ≤ t := fun e he => by
        obtain ⟨p, hp, hq⟩ := List.mem_flatMap.mp he
        simp only [List.mem_cons, List.not_mem_nil, or_false] at hq
        rcases hq with rfl | rfl
        · exact (h4 p hp).1.okF k hk'
        · exact (h4 p hp).2.okF k hk'
      have i2 : ((ps.flatMap fun p => [p.1, p.2]).map (szF k)).sum ≤ 2 * ps.length * t := by
        have : ∀ l : List (D × D), (∀ e ∈ l.flatMap fun p => [p.1, p.2], szF k e ≤ t) → ((l.flatMap fun p => [p.1, p.2]).map (szF k)).sum ≤ 2 * l.length * t := by
          intro l
          induction l with
          | nil => intro _; simp
          | cons a l ih =>
            intro h
            have h1 := h a.1 (by simp)
            have h1' := h a.2 (by simp)
            have h2 := ih fun e he => h e (by rw [List.flatMap_cons]; exact List.mem_append_right _ he)
            have e : 2 * (l.length + 1) * t = 2 * l.length * t + t + t := by rw [Nat.mul_add, Nat.add_mul, Nat.mul_one, Nat.two_mul]; omega
            rw [List.flatMap_cons, List.map_append, List.sum_append, List.length_cons, e]
            simp only [List.map_cons, List.map_nil, List.sum_cons, List.sum_nil]
            omega
        exact this ps fun e he => (i1 e he).2
      have e2 : (2 * ps.length + 1) * t = 2 * ps.length * t + t := by rw [Nat.add_mul, Nat.one_mul]
      refine ⟨?_, ?_⟩
      · rw [Bool.and_eq_true]
        refine ⟨by simp [formOk, rowsOk, isPair, hpos, h3], List.all_eq_true.mpr fun e he => ?_⟩
        rcases List.mem_append.mp he with he | he
        · exact (i1 e he).1
        · rw [List.mem_singleton.mp he]; exact j1
      · rw [List.map_append, List.sum_append]
        simp only [List.map_cons, List.map_nil, List.sum_cons, List.sum_nil]
        omega
theorem Dec.isDec {m n s : Nat} {d : D} (h : Dec m n s d) (hn : n ≤ 12) (hs : s ≤ 60) : isDec m d = true := by
  obtain ⟨h1, h2⟩ := h.okF 12 hn
  unfold Mb.isDec
  rw [h1, Bool.true_and, decide_eq_true_eq]; omega
end Mb
end
section
set_option Elab.async false
set_option linter.all false
set_option maxRecDepth 100000
set_option maxHeartbeats 4000000
namespace Vi
open PySem PySem.Spec L2
section
variable {A : List O} {C : String} {f : Str} {n : Nat} {d x : D} {ns : List Str} {ds : List D} {σ : Env} {mo mv : M D} {mr : M (List D)} {m : List D → List O → R D} {dds : List D} {fz : Bool}
@[simp ↓] theorem sFldD_e : sFldD C f mo mv σ A = withE (fun σ A => (mv σ A).bind fun y A => (mo σ A).bind fun x A => match setFld C f x y A with
  | some A' => R.ok D.non A'
  | none => R.no) (fun σ _ A => .ok (.nx σ) A) σ A := rfl
@[simp ↓] theorem mDict0_e : mDict0 σ A = .ok (.ref A.length) (A ++ [.dct [] []]) := rfl
@[simp ↓] theorem mMethC_e {nm : Str} : mMethC C nm m dds mo mr σ A = (mo σ A).bind fun x A => match insOf x A with
  | some (c, ns, _) => if c = C ∧ fIx ns nm = none then (mr σ A).bind fun xs A => m (x :: (xs ++ dds)) A else .no
  | none => .no := rfl
@[simp] theorem insOf_obj : insOf (.obj C ns ds) A = some (C, ns, ds) := rfl
theorem setFld_new (h : A[n]? = some (.ins C ns ds)) (hl : ns.length < 1000) (hf : fIx ns f = none) : setFld C f (.ref n) d A = some (A.set n (.ins C (ns ++ [f]) (ds ++ [d]))) := by
  unfold setFld
  simp only [h]
  simp only [hl, and_self, if_true, hf]
theorem dFld_obj {i : Nat} (hf : fIx ns f = some i) (hd : ds[i]? = some d) : dFld C f (.obj C ns ds) A = .ok d A := by
  unfold dFld
  simp only [insOf_obj, hf, Option.bind_some, hd, if_true]
theorem dFld_ref {i : Nat} (h : A[n]? = some (.ins C ns ds)) (hf : fIx ns f = some i) (hd : ds[i]? = some d) : dFld C f (.ref n) A = .ok d A := by
  unfold dFld insOf
  simp only [h, hf, Option.bind_some, hd, if_true]
theorem frz1_no (h : noR d = true) : frz1 d A = (d, A) := by
  cases d with
  | ref n => simp at h
  | _ => rfl
theorem trimR_keep {d : D} {A' : List O} (h : ¬ TrimC A d A') : trimR A (.ok d A') = .ok d A' := by
  unfold trimR
  exact if_neg h
/-! dicts of rows -/
theorem dInT_b {neg : Bool} {ks : List (List Bool)} {r : List Bool} (hr : rowOf x = some r) (h : A[n]? = some (.dtb ks ds)) : dInT neg x (.ref n) A = .ok (.bl (if neg then !(kIx ks r).isSome else (kIx ks r).isSome)) A := by
  unfold dInT
  simp only [h, hr]
theorem dInT_0 {neg : Bool} {r : List Bool} (hk : keyK x = none) (hr : rowOf x = some r) (h : A[n]? = some (.dct [] ds)) : dInT neg x (.ref n) A = .ok (.bl neg) (A.set n (.dtb [] [])) := by
  unfold dInT
  simp only [h, hk, hr]
theorem setIxT_new {ks : List (List Bool)} {r : List Bool} (hr : rowOf x = some r) (h : A[n]? = some (.dtb ks ds)) (hl : ks.length < 16777216) (hn : kIx ks r = none) : setIxT (.ref n) x d A = some (A.set n (.dtb (ks ++ [r]) (ds ++ [d]))) := by
  unfold setIxT
  simp only [h]
  rw [sizeLine_eq, if_pos hl]
  simp only [hr, hn]
theorem setIxT_0 {r : List Bool} (hk : keyK x = none) (hr : rowOf x = some r) (h : A[n]? = some (.dct [] ds)) : setIxT (.ref n) x d A = some (A.set n (.dtb [r] [d])) := by
  unfold setIxT
  simp only [h]
  rw [sizeLine_eq, if_pos (by decide)]
  simp only [hk, hr]
end
end Vi
namespace Mb
open PySem PySem.Spec L2 Vi
noncomputable def ansB (d : D) (r : List Bool) : Bool := match m_answer 34 [d, rowD r] [] with
  | .ok (.bl b) _ => b
  | _ => false
theorem ans_eq {m n s : Nat} {d : D} {r : List Bool} (hm : m ≤ 10) (hr : r.length = m) (hn : n ≤ 16) (h : Dec m n s d) (A : List O) : m_answer 34 [d, rowD r] A = .ok (.bl (ansB d r)) A ∧ m_law_answer 16 [d, rowD r] A = .ok (.bl (ansB d r)) A := by
  obtain ⟨b, a1, a2⟩ := ans_ok hm hr (by omega) h
  have : ansB d r = b := by
    unfold ansB
    rw [a1 34 [] (by omega)]
  rw [this]
  exact ⟨a1 34 A (by omega), a2 16 A hn⟩
/-! look_at_rows -/
def tblO (f : List Bool → D) (p : List (List Bool)) : O := if p = [] then .dct [] [] else .dtb p (p.map f)
theorem kIx_mem {rs p s : List (List Bool)} {r : List Bool} (hn : rs.Nodup) (e : rs = p ++ r :: s) : kIx p r = none := by
  rw [kIx_none]
  subst e
  intro h
  exact (List.nodup_append.mp hn).2.2 r h r (List.mem_cons_self ..) rfl
theorem look_at_rows_ok {m : Nat} {rs : List (List Bool)} (hm : m ≤ 1000) (hl : ∀ r ∈ rs, r.length = m) (hn : rs.Nodup) (h0 : rs ≠ []) (hz : rs.length ≤ 1000) (A : List O) : m_look_at_rows [.int m, .lst (rs.map rowD)] A = .ok .non A := by
  have e1 : dEq (.lst (rs.map rowD)) (.lst []) A = .ok (.bl false) A := by
    rw [rows_nil]; cases rs <;> simp_all
  have e2 : ∀ A, fEnum [.lst (rs.map rowD)] A = .ok (.fix ((rs.zipIdx 0).map fun p => .tup [.int (p.2 : Nat), rowD p.1])) A := fun A => by
    show R.ok (Src.fix (enumD 0 (rs.map rowD))) A = _
    rw [enumD_map]
  obtain ⟨σ', A', e3, x, y, rfl, rfl⟩ := forD_p (ok := fun _ => True) (tg := tgT 2 (tgsCons (tgN 3) (tgsCons (tgN 4) tgsNil))) (body := b_look_at_rows_1) (f := fun p : List Bool × Nat => .tup [.int (p.2 : Nat), rowD p.1]) (xs := rs.zipIdx 0)
    (σ := [some (.int m), some (.lst (rs.map rowD)), some (.ref A.length), none, none]) (A := A ++ [.dct [] []])
    (fun p σ A' => ∃ x y : Option D, σ = [some (.int m), some (.lst (rs.map rowD)), some (.ref A.length), x, y] ∧ A' = A ++ [tblO (fun _ => .bl true) (p.map (·.1))]) (fun _ _ _ _ => trivial) ⟨none, none, rfl, by simp [tblO]⟩
    fun p x s e σ A' ⟨u, v, hσ, hA⟩ => by
      subst hσ hA
      obtain ⟨r, i⟩ := x
      have e4 : rs = p.map (·.1) ++ r :: s.map (·.1) := by
        have := congrArg (List.map (·.1)) e
        rw [List.map_append, List.map_cons, List.zipIdx_map_fst] at this
        exact this
      have hr : r ∈ rs := by rw [e4]; simp
      have f1 := fun A => is_row_ok (A := A) (r := r) (m := m) (by rw [hl r hr]; exact hm)
      have hk := kIx_mem hn e4
      have hpl : (p.map (·.1)).length < 16777216 := by
        have : rs.length = (p.map (·.1)).length + (s.length + 1) := by rw [e4]; simp
        omega
      have hlm := hl r hr
      refine ⟨[some (.int m), some (.lst (rs.map rowD)), some (.ref A.length), some (.int (i : Nat)), some (rowD r)], A ++ [tblO (fun _ => .bl true) (p.map (·.1))], [some (.int m), some (.lst (rs.map rowD)), some (.ref A.length), some (.int (i : Nat)), some (rowD r)], A ++ [tblO (fun _ => .bl true) ((p ++ [(r, i)]).map (·.1))], tgT_e.trans (by simp), .inl ?_, some (.int (i : Nat)), some (rowD r), rfl, rfl⟩
      by_cases hp : p = []
      · subst hp
        have f2 : dInT false (rowD r) (.ref A.length) (A ++ [.dct [] []]) = .ok (.bl false) (A ++ [.dtb [] []]) := by
          rw [dInT_0 keyK_row rowOf_row (ds := []) (by simp)]; simp
        have f3 : setIxT (.ref A.length) (rowD r) (.bl true) (A ++ [.dtb [] []]) = some (A ++ [.dtb [r] [.bl true]]) := by
          rw [setIxT_new rowOf_row (ks := []) (ds := []) (by simp) (by simp) rfl]; simp
        simp [b_look_at_rows_1, tblO, f1, hlm, f2, f3]
      · have hq : p.map (·.1) ≠ [] := by simpa using hp
        have f2 : dInT false (rowD r) (.ref A.length) (A ++ [.dtb (p.map (·.1)) ((p.map (·.1)).map fun _ => .bl true)]) = .ok (.bl false) (A ++ [.dtb (p.map (·.1)) ((p.map (·.1)).map fun _ => .bl true)]) := by
          rw [dInT_b rowOf_row (ks := p.map (·.1)) (ds := (p.map (·.1)).map fun _ => .bl true) (by simp), hk]; rfl
        have f3 : setIxT (.ref A.length) (rowD r) (.bl true) (A ++ [.dtb (p.map (·.1)) ((p.map (·.1)).map fun _ => .bl true)]) = some (A ++ [.dtb (p.map (·.1) ++ [r]) ((p.map (·.1)).map (fun _ => .bl true) ++ [.bl true])]) := by
          rw [setIxT_new rowOf_row (ks := p.map (·.1)) (ds := (p.map (·.1)).map fun _ => .bl true) (by simp) hpl hk]; simp
        have t1 : tblO (fun _ => .bl true) (p.map (·.1)) = .dtb (p.map (·.1)) ((p.map (·.1)).map fun _ => .bl true) := if_neg hq
        have t2 : tblO (fun _ => .bl true) ((p ++ [(r, i)]).map (·.1)) = .dtb (p.map (·.1) ++ [r]) ((p.map (·.1)).map (fun _ => .bl true) ++ [.bl true]) := by
          rw [tblO, if_neg (by simp), List.map_append, List.map_append]; rfl
        rw [t1, t2]
        generalize p.map (·.1) = q at *
        simp [b_look_at_rows_1, f1, hlm, f2, f3]
  have hz2 : rs.length < 16777216 := by omega
  simp [m_look_at_rows, b_look_at_rows, e1, e2, e3]
end Mb
end
section
set_option Elab.async false
set_option linter.all false
set_option maxRecDepth 100000
set_option maxHeartbeats 4000000
namespace Vi
open PySem PySem.Spec L2
end Vi
namespace Mb
open PySem PySem.Spec L2 Vi
section
variable {A : List O}
theorem sortR_mem {rs : List (List Bool)} {r : List Bool} : r ∈ sortR rs ↔ r ∈ rs := (sortR_perm rs).mem_iff
theorem sortR_nodup {rs : List (List Bool)} (h : rs.Nodup) : (sortR rs).Nodup := (sortR_perm rs).nodup_iff.mpr h
theorem sortR_len {rs : List (List Bool)} : (sortR rs).length = rs.length := (sortR_perm rs).length_eq
theorem intsOf_rows {r : List Bool} {rs : List (List Bool)} : intsOf ((r :: rs).map rowD) = none := rfl
theorem sorted_rows_ok {m : Nat} {rs : List (List Bool)} (h0 : 1 ≤ m) (hl : ∀ r ∈ rs, r.length = m) (hz : rs.length ≤ 1000) {x : D} (hx : lstOf x A = some (rs.map rowD)) : fSorted true [x] A = .ok (.lst ((sortR rs).map rowD)) A := by
  have e1 : rs.all (fun r => !r.isEmpty) = true := by
    rw [List.all_eq_true]
    intro r hr
    have h2 := hl r hr
    cases r with
    | nil => simp at h2; omega
    | cons => rfl
  have e2 : ((sortR rs).map rowD).length < 16777216 := by rw [List.length_map, sortR_len]; omega
  unfold fSorted
  simp only [hx]
  cases rs with
  | nil => exact newL_t e2
  | cons r rs =>
    simp only [intsOf_rows, rowsOfD_map, e1, if_true]
    exact newL_t e2
/-! all rows -/
theorem two_len (l : List (List Bool)) : (l.flatMap fun r => [r ++ [false], r ++ [true]]).length = 2 * l.length := by
  induction l with
  | nil => rfl
  | cons r l ih => rw [List.flatMap_cons, List.length_append, ih, List.length_cons]; simp; omega
def allR : Nat → List (List Bool)
  | 0 => [[]]
  | k + 1 => (allR k).flatMap fun r => [r ++ [false], r ++ [true]]
theorem allR_len : ∀ {k : Nat} {r : List Bool}, r ∈ allR k ↔ r.length = k
  | 0, r => by simp [allR]
  | k + 1, r => by
    rw [allR, List.mem_flatMap]
    constructor
    · rintro ⟨s, hs, hr⟩
      have := allR_len.mp hs
      simp at hr
      rcases hr with rfl | rfl <;> simp [this]
    · intro h
      obtain ⟨s, b, rfl⟩ : ∃ s b, r = s ++ [b] := ⟨r.dropLast, r.getLast (by intro z; subst z; simp at h), (List.dropLast_concat_getLast _).symm⟩
      refine ⟨s, allR_len.mpr (by simpa using h), ?_⟩
      cases b <;> simp
theorem allR_size : ∀ {k : Nat}, (allR k).length = 2 ^ k
  | 0 => rfl
  | k + 1 => by
    rw [allR, two_len, allR_size, Nat.pow_succ]; omega
theorem allR_nodup : ∀ {k : Nat}, (allR k).Nodup
  | 0 => by simp [allR]
  | k + 1 => by
    have : ∀ l : List (List Bool), l.Nodup → (l.flatMap fun r => [r ++ [false], r ++ [true]]).Nodup := by
      intro l
      induction l with
      | nil => intro _; exact List.nodup_nil
      | cons r l ih =>
        intro h
        rw [List.nodup_cons] at h
        rw [List.flatMap_cons, List.nodup_append]
        refine ⟨by simp, ih h.2, ?_⟩
        intro a ha b hb e
        subst e
        obtain ⟨s, hs, hb⟩ := List.mem_flatMap.mp hb
        have : a.dropLast = r := by simp at ha; rcases ha with rfl | rfl <;> simp
        have : a.dropLast = s := by simp at hb; rcases hb with rfl | rfl <;> simp
        simp_all
    rw [allR]
    exact this _ allR_nodup
theorem rows_step {l : List (List Bool)} {m i X : D} {x4 : Option D} {s : Src} {n : Nat} (hs : s.items = l.map rowD) (hn : n = A.length) (hz : l.length ≤ 1000) (hl : ∀ r ∈ l, r.length ≤ 1000) (hk : ∀ o, s.ok (A ++ [o])) :
    ∃ y, forD s.ok (tgN 4) b_all_rows_1 s.items [some m, some X, some i, some (.ref n), x4] (A ++ [.lst []]) = .ok (.nx [some m, some X, some i, some (.ref n), y]) (A ++ [.lst ((l.flatMap fun r => [r ++ [false], r ++ [true]]).map rowD)]) := by
  subst hn
  rw [hs]
  obtain ⟨σ', A', e, y, rfl, rfl⟩ := forD_p (ok := s.ok) (tg := tgN 4) (body := b_all_rows_1) (f := rowD) (xs := l) (σ := [some m, some X, some i, some (.ref A.length), x4]) (A := A ++ [.lst []])
    (fun p σ A' => ∃ y, σ = [some m, some X, some i, some (.ref A.length), y] ∧ A' = A ++ [.lst ((p.flatMap fun r => [r ++ [false], r ++ [true]]).map rowD)])
    (fun p σ A' h => by obtain ⟨_, _, rfl⟩ := h; exact hk _) ⟨x4, rfl, rfl⟩
    fun p r q e σ A' ⟨y, hσ, hA⟩ => by
      subst hσ hA
      have hr : r.length ≤ 1000 := hl r (by rw [e]; simp)
      have hp : p.length ≤ 1000 := by have := congrArg List.length e; simp at this; omega
      have c1 : dAdd true (rowD r) (.tup [.bl false]) (A ++ [.lst ((p.flatMap fun r => [r ++ [false], r ++ [true]]).map rowD)]) = .ok (rowD (r ++ [false])) _ := dAdd_rr2 (s := [false]) (by simp; omega)
      have c2 : dAdd true (rowD r) (.tup [.bl true]) (A ++ [.lst ((p.flatMap fun r => [r ++ [false], r ++ [true]]).map rowD)]) = .ok (rowD (r ++ [true])) _ := dAdd_rr2 (s := [true]) (by simp; omega)
      have c3 : (p.flatMap fun r => [r ++ [false], r ++ [true]]).length = 2 * p.length := by
        exact two_len p
      refine ⟨_, _, [some m, some X, some i, some (.ref A.length), some (rowD r)], _, tgN_e, .inl ?_, some (rowD r), rfl, rfl⟩
      rw [List.flatMap_append, List.map_append]
      generalize hP : (p.flatMap fun r => [r ++ [false], r ++ [true]]) = P at *
      have c4 : fExtend (.ref A.length) [.lst [rowD (r ++ [false]), rowD (r ++ [true])]] (A ++ [.lst (P.map rowD)]) = .ok .non (A ++ [.lst (P.map rowD ++ [rowD (r ++ [false]), rowD (r ++ [true])])]) := by
        rw [fExtend_e (ds := P.map rowD) (es := [rowD (r ++ [false]), rowD (r ++ [true])]) (by simp) rfl (by simp; omega)]; simp
      simp [b_all_rows_1, c1, c2, c4]
  exact ⟨y, e⟩
theorem rng_0 {m : Nat} : rng 0 m = (List.range m).map fun i : Nat => D.int (i : Int) := by simp [rng]
def RowsAt (X : D) (A : List O) (l : List (List Bool)) : Prop := ∃ s : Src, s.items = l.map rowD ∧ ∀ o, srcOf X (A ++ [o]) = .ok s (A ++ [o]) ∧ s.ok (A ++ [o])
theorem rowsAt_ref {n : Nat} {l : List (List Bool)} (h : A[n]? = some (.lst (l.map rowD))) : RowsAt (.ref n) A l := by
  refine ⟨.live (.ref n) (l.map rowD), rfl, fun o => ?_⟩
  have e : (A ++ [o])[n]? = some (.lst (l.map rowD)) := by rw [List.getElem?_append_left (List.getElem?_eq_some_iff.mp h).1, h]
  refine ⟨by rw [srcOf_r, e], ?_⟩
  show lstOf (.ref n) (A ++ [o]) = _
  rw [lstOf_ref, e]
theorem prog_rows_ok {m : Nat} (h0 : 1 ≤ m) (hm : m ≤ 8) : ∃ B X, m_all_rows [.int m] A = .ok X (A ++ B) ∧ lstOf X (A ++ B) = some ((allR m).map rowD) := by
  have hz : ∀ {k : Nat}, k ≤ m → (allR k).length ≤ 256 := fun {k} hk => by
    rw [allR_size]
    exact Nat.pow_le_pow_right (n := 2) (by decide) (by omega : k ≤ 8)
  obtain ⟨σ', A', e, x, y, X, B, rfl, rfl, h1, _, h2⟩ := forD_p (ok := fun _ => True) (tg := tgN 2) (body := b_all_rows_2) (f := fun i : Nat => .int (0 + (i : Int))) (xs := List.range m) (σ := [some (.int m), some (.lst [.tup []]), none, none, none]) (A := A)
    (fun p σ A' => ∃ x y X B, σ = [some (.int m), some X] ++ x ++ [y] ∧ A' = A ++ B ∧ x.length = 2 ∧ RowsAt X A' (allR p.length) ∧ (p ≠ [] → ∃ n, X = .ref n ∧ A'[n]? = some (.lst ((allR p.length).map rowD))))
    (fun _ _ _ _ => trivial) ⟨[none, none], none, _, [], rfl, by simp, rfl, ⟨.fix [.tup []], rfl, fun _ => ⟨rfl, trivial⟩⟩, fun h => absurd rfl h⟩
    fun p i q e σ A' ⟨x, y, X, B, hσ, hA, hx, ⟨s, s2, s3⟩, _⟩ => by
      subst hσ
      obtain ⟨x1, x2, rfl⟩ : ∃ a b, x = [a, b] := by
        match x, hx with
        | [a, b], _ => exact ⟨a, b, rfl⟩
      have hp : p.length < m := by have := congrArg List.length e; simp at this; omega
      obtain ⟨y2, e2⟩ := rows_step (A := A') (m := .int m) (i := .int (0 + (i : Int))) (X := X) (x4 := y) (s := s) (n := A'.length) s2 rfl (by have := hz (Nat.le_of_lt hp); omega) (fun r hr => by rw [allR_len.mp hr]; omega) fun o => (s3 o).2
      have e3 : allR (p ++ [i]).length = (allR p.length).flatMap fun r => [r ++ [false], r ++ [true]] := by rw [List.length_append]; rfl
      rw [← e3] at e2
      have e4 : (A' ++ [O.lst ((allR (p ++ [i]).length).map rowD)])[A'.length]? = some (.lst ((allR (p ++ [i]).length).map rowD)) := by simp
      have s4 := (s3 (.lst [])).1
      rw [Int.zero_add] at e2
      refine ⟨_, _, [some (.int m), some (.ref A'.length), some (.int (0 + (i : Int))), some (.ref A'.length), y2], A' ++ [.lst ((allR (p ++ [i]).length).map rowD)], tgN_e, .inl ?_, [some (.int (0 + (i : Int))), some (.ref A'.length)], y2, .ref A'.length, B ++ [.lst ((allR (p ++ [i]).length).map rowD)], rfl, by rw [hA, List.append_assoc], rfl, ?_, fun _ => ⟨_, rfl, e4⟩⟩
      · simp [b_all_rows_2, s4, e2]
      · exact rowsAt_ref e4
  obtain ⟨n, rfl, h3⟩ := h2 (by cases m with
    | zero => omega
    | succ m => rw [List.range_succ]; simp)
  rw [List.length_range] at h3
  match x, h1 with
  | [a, b], _ =>
  refine ⟨B, .ref n, ?_, by rw [lstOf_ref, h3]⟩
  have e1 := rng_0 (m := m)
  simp only [Int.zero_add] at e
  have hm2 : (m : Int) < 4611686018427387904 := by omega
  have hm3 : (-4611686018427387904 : Int) ≤ m := by omega
  have e5 : b_all_rows [some (.int m), none, none, none, none] A = .ok (.rt (.ref n)) (A ++ B) := by
    simp [b_all_rows, e1, e, hm2, hm3]
  show trimR A (endB (b_all_rows [some (.int m), none, none, none, none] A)) = _
  rw [e5]
  exact trimR_nr noR_ref
end
end Mb
end
section
set_option Elab.async false
set_option linter.all false
set_option maxRecDepth 100000
set_option maxHeartbeats 4000000
namespace Mb
open PySem PySem.Spec L2 Vi
theorem runB_nx {N : Nat} {b : SM} {args : List D} {A A' : List O} {e σ : Vi.Env} (h : args.map some ++ List.replicate (N - args.length) none = e) (k : b e A = .ok (.nx σ) A') : runB N b args A = trimR A (.ok .non A') := by
  unfold runB
  rw [h, k]; rfl
theorem runB_rt {N : Nat} {b : SM} {args : List D} {A A' : List O} {e : Vi.Env} {d : D} (h : args.map some ++ List.replicate (N - args.length) none = e) (k : b e A = .ok (.rt d) A') : runB N b args A = trimR A (.ok d A') := by
  unfold runB
  rw [h, k]; rfl
noncomputable def newCase (xs : List D) (A : List O) : R D := trimR A ((m_Case_init (.ref A.length :: xs) (A ++ [.ins "Case" [] []])).bind fun v B => match v with
  | .non => frzO A.length B
  | _ => .no)
@[simp ↓] theorem mCase_e {dds : List D} {mr : M (List D)} {σ : Vi.Env} {A : List O} : mMake true "Case" m_Case_init dds mr σ A = (mr σ A).bind fun xs A => newCase (xs ++ dds) A := rfl
def nsC : List Str := ["case_many", "case_decision", "case_rows"]
noncomputable def caseD (m : Nat) (d : D) (rs : List (List Bool)) : D := .obj "Case" nsC [.int m, d, .db rs (rs.map fun r => .bl (ansB d r))]
structure Rows (m : Nat) (rs : List (List Bool)) : Prop where
  len : ∀ r ∈ rs, r.length = m
  nd : rs.Nodup
  ne : rs ≠ []
  sz : rs.length ≤ 1000
theorem Rows.sort {m : Nat} {rs : List (List Bool)} (h : Rows m rs) : Rows m (sortR rs) := ⟨fun r hr => h.len r (sortR_mem.mp hr), sortR_nodup h.nd, fun e => h.ne (by have := sortR_len (rs := rs); rw [e] at this; exact List.length_eq_zero_iff.mp this.symm), by rw [sortR_len]; exact h.sz⟩
theorem allR_rows {m : Nat} (hm : m ≤ 8) : Rows m (allR m) := ⟨fun r h => allR_len.mp h, allR_nodup, fun e => by have := allR_size (k := m); rw [e] at this; simp at this; have := Nat.two_pow_pos m; omega, by rw [allR_size]; exact Nat.le_trans (Nat.pow_le_pow_right (n := 2) (by decide) hm) (by decide)⟩
section
variable {m n s : Nat} {d : D} {rs : List (List Bool)} {A : List O}
/-- the loop that fills the table of answers -/
theorem fill_ok (hm : m ≤ 8) (hd : Dec m n s d) (hn : n ≤ 12) {xs : List (List Bool)} (hr : Rows m xs) {X : D} {y : Option D} {B : List O} :
    ∃ y', forD (fun _ => True) (tgN 4) b_Case_init_1 (xs.map rowD) [some (.ref A.length), some (.int m), some d, some X, y] (A ++ [.ins "Case" nsC [.int m, d, .ref (A.length + 1)], .dct [] []] ++ B)
      = .ok (.nx [some (.ref A.length), some (.int m), some d, some X, y']) (A ++ [.ins "Case" nsC [.int m, d, .ref (A.length + 1)], tblO (fun r => .bl (ansB d r)) xs] ++ B) := by
  obtain ⟨σ', A', e, y', rfl, rfl⟩ := forD_p (ok := fun _ => True) (tg := tgN 4) (body := b_Case_init_1) (f := rowD) (xs := xs) (σ := [some (.ref A.length), some (.int m), some d, some X, y]) (A := A ++ [.ins "Case" nsC [.int m, d, .ref (A.length + 1)], .dct [] []] ++ B)
    (fun p σ A' => ∃ y', σ = [some (.ref A.length), some (.int m), some d, some X, y'] ∧ A' = A ++ [.ins "Case" nsC [.int m, d, .ref (A.length + 1)], tblO (fun r => .bl (ansB d r)) p] ++ B) (fun _ _ _ _ => trivial) ⟨y, rfl, rfl⟩
    fun p r q e σ A' ⟨y, hσ, hA⟩ => by
      subst hσ hA
      have hr1 : r ∈ xs := by rw [e]; simp
      have hk := kIx_mem hr.nd e
      have hpl : p.length < 16777216 := by
        have := congrArg List.length e
        have := hr.sz
        simp at *; omega
      have f1 := fun A => (ans_eq (by omega : m ≤ 10) (hr.len r hr1) (by omega) hd A).1
      have f2 : ∀ o, dFld "Case" "case_rows" (.ref A.length) (A ++ [.ins "Case" nsC [.int m, d, .ref (A.length + 1)], o] ++ B) = .ok (.ref (A.length + 1)) (A ++ [.ins "Case" nsC [.int m, d, .ref (A.length + 1)], o] ++ B) := fun o =>
        dFld_ref (i := 2) (ns := nsC) (ds := [.int m, d, .ref (A.length + 1)]) (by simp) (by decide) rfl
      refine ⟨_, _, [some (.ref A.length), some (.int m), some d, some X, some (rowD r)], A ++ [.ins "Case" nsC [.int m, d, .ref (A.length + 1)], tblO (fun r => .bl (ansB d r)) (p ++ [r])] ++ B, tgN_e, .inl ?_, some (rowD r), rfl, rfl⟩
      by_cases hp : p = []
      · subst hp
        have t1 : tblO (fun r => .bl (ansB d r)) [] = .dct [] [] := rfl
        have t2 : tblO (fun r => .bl (ansB d r)) ([] ++ [r]) = .dtb [r] [.bl (ansB d r)] := rfl
        have f3 : setIxT (.ref (A.length + 1)) (rowD r) (.bl (ansB d r)) (A ++ [.ins "Case" nsC [.int m, d, .ref (A.length + 1)], .dct [] []] ++ B) = some (A ++ [.ins "Case" nsC [.int m, d, .ref (A.length + 1)], .dtb [r] [.bl (ansB d r)]] ++ B) := by
          rw [setIxT_0 keyK_row rowOf_row (ds := []) (by simp)]; simp
        rw [t1, t2]
        have f2 := f2 (.dct [] [])
        generalize (A ++ [.ins "Case" nsC [.int m, d, .ref (A.length + 1)], .dct [] []] ++ B) = Z at *
        simp [b_Case_init_1, f1, f2, f3]
      · have t1 : tblO (fun r => .bl (ansB d r)) p = .dtb p (p.map fun r => .bl (ansB d r)) := if_neg hp
        have t2 : tblO (fun r => .bl (ansB d r)) (p ++ [r]) = .dtb (p ++ [r]) (p.map (fun r => .bl (ansB d r)) ++ [.bl (ansB d r)]) := by
          rw [tblO, if_neg (by simp), List.map_append]; rfl
        have f3 : setIxT (.ref (A.length + 1)) (rowD r) (.bl (ansB d r)) (A ++ [.ins "Case" nsC [.int m, d, .ref (A.length + 1)], .dtb p (p.map fun r => .bl (ansB d r))] ++ B) = some (A ++ [.ins "Case" nsC [.int m, d, .ref (A.length + 1)], .dtb (p ++ [r]) (p.map (fun r => .bl (ansB d r)) ++ [.bl (ansB d r)])] ++ B) := by
          rw [setIxT_new rowOf_row (ks := p) (ds := p.map fun r => .bl (ansB d r)) (by simp) hpl hk]; simp
        rw [t1, t2]
        have f2 := f2 (.dtb p (p.map fun r => .bl (ansB d r)))
        generalize (A ++ [.ins "Case" nsC [.int m, d, .ref (A.length + 1)], .dtb p (p.map fun r => .bl (ansB d r))] ++ B) = Z at *
        simp [b_Case_init_1, f1, f2, f3]
  exact ⟨y', e⟩
theorem frzO_case {xs : List (List Bool)} (hx : xs ≠ []) (hd : noR d = true) {B : List O} : trimR A (frzO A.length (A ++ [.ins "Case" nsC [.int m, d, .ref (A.length + 1)], tblO (fun r => .bl (ansB d r)) xs] ++ B)) = .ok (caseD m d xs) A := by
  have t1 : tblO (fun r => .bl (ansB d r)) xs = .dtb xs (xs.map fun r => .bl (ansB d r)) := if_neg hx
  have e1 : (A ++ [.ins "Case" nsC [.int m, d, .ref (A.length + 1)], O.dtb xs (xs.map fun r => .bl (ansB d r))] ++ B)[A.length]? = some (.ins "Case" nsC [.int m, d, .ref (A.length + 1)]) := by simp
  have e2 : (A ++ [.ins "Case" nsC [.int m, d, .ref (A.length + 1)], O.dtb xs (xs.map fun r => .bl (ansB d r))] ++ B)[A.length + 1]? = some (O.dtb xs (xs.map fun r => .bl (ansB d r))) := by simp
  have e3 : frzL [.int m, d, .ref (A.length + 1)] (A ++ [.ins "Case" nsC [.int m, d, .ref (A.length + 1)], O.dtb xs (xs.map fun r => .bl (ansB d r))] ++ B) = ([.int m, d, .db xs (xs.map fun r => .bl (ansB d r))], A ++ [.ins "Case" nsC [.int m, d, .ref (A.length + 1)], O.dead] ++ B) := by
    simp only [frzL]
    rw [frz1_no (d := .int m) noR_int]
    simp only [frz1_no hd]
    unfold frz1
    simp only [e2]
    simp
  rw [t1]
  unfold frzO
  simp only [e1, e3]
  simp [caseD]
  exact trimR_app (by simp [hd])
theorem init_ok (h0 : 1 ≤ m) (hm : m ≤ 8) (hd : Dec m n s d) (hn : n ≤ 12) (hs : s ≤ 60) {X : D} (hX : X = .non ∧ rs = allR m ∨ X = .lst (rs.map rowD) ∧ Rows m rs) :
    ∃ B, m_Case_init [.ref A.length, .int m, d, X] (A ++ [.ins "Case" [] []]) = .ok .non (A ++ [.ins "Case" nsC [.int m, d, .ref (A.length + 1)], tblO (fun r => .bl (ansB d r)) (sortR rs)] ++ B) := by
  have hr : Rows m rs := by
    rcases hX with ⟨_, rfl⟩ | ⟨_, h⟩
    · exact allR_rows hm
    · exact h
  have e1 := is_within_ok (A := A ++ [.ins "Case" [] []]) (lo := 1) (hi := 8) (Dat.int (n := 0) (i := (m : Int)))
  have e2 := is_decision_ok (many := m) (k := 36) (by decide) ((hd.dat).mono (by omega)) (A ++ [.ins "Case" [] []])
  rw [hd.isDec hn hs] at e2
  have e3 : within (.int m) 1 8 = true := by simp [within]; omega
  rw [e3] at e1
  have g1 : setFld "Case" "case_many" (.ref A.length) (.int m) (A ++ [.ins "Case" [] []]) = some (A ++ [.ins "Case" ["case_many"] [.int m]]) := by
    rw [setFld_new (ns := []) (ds := []) (by simp) (by decide) (by decide)]; simp
  have g2 : setFld "Case" "case_decision" (.ref A.length) d (A ++ [.ins "Case" ["case_many"] [.int m]]) = some (A ++ [.ins "Case" ["case_many", "case_decision"] [.int m, d]]) := by
    rw [setFld_new (ns := ["case_many"]) (ds := [.int m]) (by simp) (by decide) (by decide)]; simp
  have g3 : setFld "Case" "case_rows" (.ref A.length) (.ref (A.length + 1)) (A ++ [.ins "Case" ["case_many", "case_decision"] [.int m, d], .dct [] []]) = some (A ++ [.ins "Case" nsC [.int m, d, .ref (A.length + 1)], .dct [] []]) := by
    rw [setFld_new (ns := ["case_many", "case_decision"]) (ds := [.int m, d]) (by simp) (by decide) (by decide)]; simp [nsC]
  have g4 : ∃ B, (mSrc (mA (fSorted true) (mArgs (mIte (mBl (m2 dIs (mVar 3) (mC .non))) (mCall m_all_rows [] (mArgs (mVar 1) mArgs0)) (mVar 3)) mArgs0))) [some (.ref A.length), some (.int m), some d, some X, none] (A ++ [.ins "Case" nsC [.int m, d, .ref (A.length + 1)], .dct [] []])
      = .ok (.fix ((sortR rs).map rowD)) (A ++ [.ins "Case" nsC [.int m, d, .ref (A.length + 1)], .dct [] []] ++ B) := by
    generalize (A ++ [.ins "Case" nsC [.int m, d, .ref (A.length + 1)], .dct [] []]) = Z
    rcases hX with ⟨rfl, rfl⟩ | ⟨rfl, _⟩
    · obtain ⟨B, Y, y1, y2⟩ := prog_rows_ok (A := Z) h0 hm
      have y3 := sorted_rows_ok h0 hr.len hr.sz y2
      exact ⟨B, by simp [y1, y3]⟩
    · have y3 := sorted_rows_ok (A := Z) (x := .lst (rs.map rowD)) h0 hr.len hr.sz rfl
      exact ⟨[], by simp [y3]⟩
  have g5 : (isNon X = true) ∨ (isNon X = false ∧ m_look_at_rows [.int m, X] (A ++ [.ins "Case" [] []]) = .ok .non (A ++ [.ins "Case" [] []])) := by
    rcases hX with ⟨rfl, rfl⟩ | ⟨rfl, h⟩
    · exact .inl rfl
    · exact .inr ⟨rfl, look_at_rows_ok (by omega) h.len h.nd h.ne h.sz _⟩
  obtain ⟨B, g4⟩ := g4
  obtain ⟨y', g6⟩ := fill_ok (A := A) hm hd hn hr.sort (X := X) (y := none) (B := B)
  refine ⟨B, ?_⟩
  have key : b_Case_init [some (.ref A.length), some (.int m), some d, some X, none] (A ++ [.ins "Case" [] []]) = .ok (.nx [some (.ref A.length), some (.int m), some d, some X, y']) (A ++ [.ins "Case" nsC [.int m, d, .ref (A.length + 1)], tblO (fun r => .bl (ansB d r)) (sortR rs)] ++ B) := by
    have g7 : (sFor (mSrc (mA (fSorted true) (mArgs (mIte (mBl (m2 dIs (mVar 3) (mC .non))) (mCall m_all_rows [] (mArgs (mVar 1) mArgs0)) (mVar 3)) mArgs0))) (tgN 4) b_Case_init_1) [some (.ref A.length), some (.int m), some d, some X, none] (A ++ [.ins "Case" nsC [.int m, d, .ref (A.length + 1)], .dct [] []]) = .ok (.nx [some (.ref A.length), some (.int m), some d, some X, y']) (A ++ [.ins "Case" nsC [.int m, d, .ref (A.length + 1)], tblO (fun r => .bl (ansB d r)) (sortR rs)] ++ B) := by
      rw [sFor_e, withE_e, g4]
      exact g6
    unfold b_Case_init
    generalize (sFor (mSrc (mA (fSorted true) (mArgs (mIte (mBl (m2 dIs (mVar 3) (mC .non))) (mCall m_all_rows [] (mArgs (mVar 1) mArgs0)) (mVar 3)) mArgs0))) (tgN 4) b_Case_init_1) = F at *
    rcases g5 with g5 | ⟨g5, g8⟩
    · simp [e1, e2, g1, g2, g3, g5, g7]
    · simp [e1, e2, g1, g2, g3, g5, g7, g8]
  unfold m_Case_init
  rw [runB_nx rfl key]
  refine trimR_keep fun ⟨_, _, h⟩ => ?_
  have := h A.length (by simp)
  simp at this
  rw [noRO, noRs_all] at this
  simp at this
theorem newCase_ok (h0 : 1 ≤ m) (hm : m ≤ 8) (hd : Dec m n s d) (hn : n ≤ 12) (hs : s ≤ 60) {X : D} (hX : X = .non ∧ rs = allR m ∨ X = .lst (rs.map rowD) ∧ Rows m rs) :
    newCase [.int m, d, X] A = .ok (caseD m d (sortR rs)) A := by
  have hr : Rows m rs := by
    rcases hX with ⟨_, rfl⟩ | ⟨_, h⟩
    · exact allR_rows hm
    · exact h
  obtain ⟨B, e⟩ := init_ok (A := A) h0 hm hd hn hs hX
  unfold newCase
  rw [e]
  exact frzO_case hr.sort.ne hd.noR
end
end Mb
end
section
set_option Elab.async false
set_option linter.all false
set_option maxRecDepth 100000
set_option maxHeartbeats 4000000
namespace Mb
open PySem PySem.Spec L2 Vi
/-- a case: how many wishes, a decision that was drawn, rows -/
structure Cs (m : Nat) (d : D) (xs : List (List Bool)) : Prop where
  lo : 1 ≤ m
  hi : m ≤ 8
  dec : ∃ n s, Dec m n s d ∧ n ≤ 12 ∧ s ≤ 60
  rows : Rows m xs
section
variable {m w : Nat} {d : D} {xs : List (List Bool)} {A : List O} {r : List Bool}
theorem Cs.noR (h : Cs m d xs) : Vi.noR d = true := by
  obtain ⟨n, s, hd, hn, _⟩ := h.dec
  exact hd.noR
@[simp] theorem insOf_case : insOf (caseD m d xs) A = some ("Case", nsC, [.int m, d, .db xs (xs.map fun r => .bl (ansB d r))]) := rfl
@[simp] theorem f_many : fIx nsC "many" = none := by decide
@[simp] theorem f_rows : fIx nsC "rows" = none := by decide
@[simp] theorem f_can_be : fIx nsC "can_be" = none := by decide
@[simp] theorem f_answer : fIx nsC "answer" = none := by decide
@[simp] theorem f_look : fIx nsC "look_at_row" = none := by decide
@[simp] theorem g_many : dFld "Case" "case_many" (caseD m d xs) A = .ok (.int m) A := dFld_obj (i := 0) (by decide) rfl
@[simp] theorem g_dec : dFld "Case" "case_decision" (caseD m d xs) A = .ok d A := dFld_obj (i := 1) (by decide) rfl
@[simp] theorem g_rows : dFld "Case" "case_rows" (caseD m d xs) A = .ok (.db xs (xs.map fun r => .bl (ansB d r))) A := dFld_obj (i := 2) (by decide) rfl
theorem kIx_some {r : List Bool} : (kIx xs r).isSome = decide (r ∈ xs) := by
  cases e : kIx xs r with
  | none => simp [kIx_none.mp e]
  | some i =>
    have : ¬ r ∉ xs := fun z => by rw [kIx_none.mpr z] at e; cases e
    simp at this
    simp [this]
/-- does the wish sway the answer at the row -/
noncomputable def sway (d : D) (r : List Bool) (w : Nat) : Bool := ansB d r != ansB d (tn r w)
/-- pairs of rows that differ in one wish -/
def twP (w : Nat) (xs : List (List Bool)) : List (List Bool × List Bool) := (xs.filter fun r => !wat r w && decide (tn r w ∈ xs)).map fun r => (r, tn r w)
/-- the strict pairs -/
noncomputable def stP (d : D) (w : Nat) (xs : List (List Bool)) : List (List Bool × List Bool) := (twP w xs).filter fun p => ansB d p.1 != ansB d p.2
/-- loose pairs -/
noncomputable def swR (d : D) (w : Nat) (xs : List (List Bool)) : List (List Bool) := xs.filter fun r => sway d r w
noncomputable def hvR (d : D) (w : Nat) (S : List (List Bool)) (l : List Bool) : List (List Bool) := S.filter fun h => wat h w && (ansB d h != ansB d l)
noncomputable def loL (d : D) (w : Nat) (S p : List (List Bool)) : List (List Bool × List Bool) := p.flatMap fun l => if wat l w then [] else (hvR d w S l).map fun h => (l, h)
noncomputable def loP (d : D) (w : Nat) (xs : List (List Bool)) : List (List Bool × List Bool) := loL d w (swR d w xs) (swR d w xs)
end
end Mb
end
section
set_option Elab.async false
set_option linter.all false
set_option maxRecDepth 100000
set_option maxHeartbeats 4000000
namespace Vi
open PySem PySem.Spec L2
end Vi
namespace Mb
open PySem PySem.Spec L2 Vi
/-! the law's rows -/
theorem rowOf_inj {m i j : Nat} (hi : i < 2 ^ m) (hj : j < 2 ^ m) (h : rowOf m i = rowOf m j) : i = j := by
  refine Nat.eq_of_testBit_eq fun k => ?_
  by_cases hk : k < m
  · have := congrArg (fun l => l[m - 1 - k]?) h
    simp only [rowOf, List.getElem?_map, List.getElem?_range (by omega : m - 1 - k < m), Option.map_some, Option.some.injEq] at this
    rw [show m - 1 - (m - 1 - k) = k by omega] at this
    rw [Nat.testBit_eq_decide_div_mod_eq, Nat.testBit_eq_decide_div_mod_eq]
    exact this
  · have h2 := Nat.pow_le_pow_right (n := 2) (by decide) (by omega : m ≤ k)
    rw [Nat.testBit_lt_two_pow (by omega), Nat.testBit_lt_two_pow (by omega)]
theorem rowsOf_nodup {m : Nat} : (rowsOf m).Nodup := by
  unfold rowsOf
  have : ∀ l : List Nat, l.Nodup → (∀ i ∈ l, i < 2 ^ m) → (l.map (rowOf m)).Nodup := by
    intro l
    induction l with
    | nil => intro _ _; exact List.nodup_nil
    | cons i l ih =>
      intro h1 h2
      rw [List.nodup_cons] at h1
      rw [List.map_cons, List.nodup_cons]
      refine ⟨fun h => ?_, ih h1.2 fun j hj => h2 j (List.mem_cons_of_mem _ hj)⟩
      obtain ⟨j, hj, e⟩ := List.mem_map.mp h
      have := rowOf_inj (h2 j (List.mem_cons_of_mem _ hj)) (h2 i (List.mem_cons_self ..)) e
      exact h1.1 (this ▸ hj)
  exact this _ List.nodup_range fun i hi => List.mem_range.mp hi
theorem rowsOf_sz {m : Nat} : (rowsOf m).length = 2 ^ m := by simp [rowsOf]
/-- part of a permutation of a part -/
def Part (m : Nat) (rs : List (List Bool)) : Prop := ∃ ks, ks.Sublist (rowsOf m) ∧ ∃ q, q.Perm ks ∧ rs.Sublist q
theorem Part.rows {m : Nat} {rs : List (List Bool)} (hm : m ≤ 8) (h : Part m rs) (h0 : rs ≠ []) : Rows m rs := by
  obtain ⟨ks, h1, q, h2, h3⟩ := h
  refine ⟨fun r hr => rowsOf_len (h1.subset (h2.subset (h3.subset hr))), ((h2.nodup_iff).mpr (rowsOf_nodup.sublist h1)).sublist h3, h0, ?_⟩
  have a1 := h3.length_le
  have a2 := h2.length_eq
  have a3 := h1.length_le
  have a4 := Nat.pow_le_pow_right (n := 2) (by decide) hm
  rw [rowsOf_sz] at a3
  omega
end Mb
end
section
set_option Elab.async false
set_option linter.all false
set_option maxRecDepth 100000
set_option maxHeartbeats 4000000
namespace Mb
open PySem PySem.Spec L2 Vi
end Mb
end
section
set_option Elab.async false
set_option linter.all false
set_option maxRecDepth 100000
set_option maxHeartbeats 4000000
namespace Mb
open PySem PySem.Spec L2 Vi
/-- what the law draws: how many wishes, a decision, rows -/
structure Drawn (k z m : Nat) (d : D) (rs : List (List Bool)) : Prop where
  lo : 1 ≤ m
  hi : m ≤ k
  dec : ∃ s, Dec m 6 s d ∧ s ≤ 31
  rows : Rows m rs
  sz : rs.length ≤ z
theorem Drawn.all {k z m : Nat} {d : D} {rs : List (List Bool)} (h : Drawn k z m d rs) (hk : k ≤ 8) : Cs m d (sortR (allR m)) := by
  obtain ⟨s, h1, h2⟩ := h.dec
  exact ⟨h.lo, Nat.le_trans h.hi hk, ⟨6, s, h1, by decide, by omega⟩, (allR_rows (Nat.le_trans h.hi hk)).sort⟩
theorem Drawn.new {k z m : Nat} {d : D} {rs : List (List Bool)} (h : Drawn k z m d rs) (hk : k ≤ 8) (A : List O) : newCase [.int m, d, .lst (rs.map rowD)] A = .ok (caseD m d (sortR rs)) A := by
  obtain ⟨s, h1, h2⟩ := h.dec
  exact newCase_ok h.lo (Nat.le_trans h.hi hk) h1 (by decide) (by omega) (.inr ⟨rfl, h.rows⟩)
end Mb
end
section
set_option Elab.async false
set_option linter.all false
set_option maxRecDepth 100000
set_option maxHeartbeats 4000000
namespace Mb
open PySem PySem.Spec L2 Vi
theorem trimR_some {A A' : List O} {d : D} : ∃ B, trimR A (.ok d A') = .ok d B := by
  by_cases h : TrimC A d A'
  · exact ⟨_, if_pos h⟩
  · exact ⟨_, if_neg h⟩
end Mb
end
section
set_option Elab.async false
set_option linter.all false
set_option maxRecDepth 100000
set_option maxHeartbeats 4000000
namespace Mb
open PySem PySem.Spec L2 Vi
end Mb
end
section
set_option Elab.async false
set_option linter.all false
set_option maxRecDepth 100000
set_option maxHeartbeats 4000000
namespace Mb
open PySem PySem.Spec L2 Vi
noncomputable def b_look_at_rows_b_1 : SM :=
  (sIf (mOrT (mNotT (mTru (mCall m_is_row [] (mArgs (mVar 3) (mArgs (mMethC "Case" "many" m_Case_many [] (mVar 0) mArgs0) mArgs0))))) (mOrT (mNotT (mTru (mMethC "Case" "can_be" m_Case_can_be [] (mVar 0) (mArgs (mVar 3) mArgs0)))) (mBl (m2 (orD (dIn false) (dInD false)) (mVar 3) (mSl true (mVar 1) mNoPart (mPart (mVar 2)))))))
  (sRaiseX "NoBook" ["place"] (mArgs (mVar 2) mArgs0))
  sPass)
noncomputable def b_look_at_rows_b : SM :=
  (sSeq (sIf (mNotT (mTru (mA fIsi (mArgs (mVar 1) (mArgs (mC (.ty .list)) mArgs0)))))
  (sRaiseX "NoBook" ["place"] (mArgs (mC .non) mArgs0))
  sPass)
  (sFor (mSrcA fEnum (mArgs (mVar 1) mArgs0)) (tgT 2 (tgsCons (tgN 2) (tgsCons (tgN 3) tgsNil)))
  b_look_at_rows_b_1))
noncomputable def m_look_at_rows_b : List D → List O → R D := runB 4 b_look_at_rows_b
noncomputable def b_Book_init : SM :=
  (sSeq (sExpr (mCall m_look_at_rows_b [] (mArgs (mVar 1) (mArgs (mVar 2) mArgs0))))
  (sFldD "Book" "own_rows" (mVar 0) (mA (fListOf true) (mArgs (mVar 2) mArgs0))))
noncomputable def m_Book_init : List D → List O → R D := runB 3 b_Book_init
end Mb
end
section
set_option Elab.async false
set_option linter.all false
set_option maxRecDepth 100000
set_option maxHeartbeats 4000000
namespace Mb
open PySem PySem.Spec L2 Vi
/-! books -/
def nsB : List Str := ["own_rows"]
def bookD (bs : List (List Bool)) : D := .obj "Book" nsB [.lst (bs.map rowD)]
noncomputable def newBook (xs : List D) (A : List O) : R D := trimR A ((m_Book_init (.ref A.length :: xs) (A ++ [.ins "Book" [] []])).bind fun v B => match v with
  | .non => frzO A.length B
  | _ => .no)
@[simp ↓] theorem mBook_e {dds : List D} {mr : M (List D)} {σ : Vi.Env} {A : List O} : mMake true "Book" m_Book_init dds mr σ A = (mr σ A).bind fun xs A => newBook (xs ++ dds) A := rfl
@[simp] theorem insOf_book {bs : List (List Bool)} {A : List O} : insOf (bookD bs) A = some ("Book", nsB, [.lst (bs.map rowD)]) := rfl
section
variable {m w : Nat} {d : D} {X bs rs : List (List Bool)} {A : List O} {r : List Bool}
@[simp] theorem fb_rows : fIx nsB "rows" = none := by decide
@[simp] theorem gb_rows : dFld "Book" "own_rows" (bookD bs) A = .ok (.lst (bs.map rowD)) A := dFld_obj (i := 0) (by decide) rfl
/-- rows of a case, none twice -/
structure Bk (m : Nat) (X bs : List (List Bool)) : Prop where
  sub : ∀ r ∈ bs, r ∈ X
  nd : bs.Nodup
/-- the pairs, strict or loose -/
noncomputable def prs (d : D) (w : Nat) (X : List (List Bool)) (lo : Bool) : List (List Bool × List Bool) := if lo then loP d w X else stP d w X
def inB (bs : List (List Bool)) (p : List Bool × List Bool) : Bool := decide (p.1 ∈ bs) && decide (p.2 ∈ bs)
/-- the wishes that a book shows -/
noncomputable def shown (m : Nat) (d : D) (X bs : List (List Bool)) (lo : Bool) : List Nat := (List.range m).filter fun w => (prs d w X lo).any (inB bs)
end
end Mb
end
section
set_option Elab.async false
set_option linter.all false
set_option maxRecDepth 100000
set_option maxHeartbeats 4000000
namespace Mb
open PySem PySem.Spec L2 Vi
section
variable {m w n : Nat} {d : D} {X bs rs : List (List Bool)} {A : List O} {r : List Bool}
/-- some of the rows, in some order -/
def SubP (bs rs : List (List Bool)) : Prop := ∃ ks, ks.Sublist rs ∧ bs.Perm ks
theorem SubP.bk (h : SubP bs rs) (hn : rs.Nodup) (hs : ∀ r ∈ rs, r ∈ X) : Bk m X bs := by
  obtain ⟨ks, h1, h2⟩ := h
  exact ⟨fun r hr => hs r (h1.subset (h2.subset hr)), h2.nodup_iff.mpr (hn.sublist h1)⟩
theorem SubP.len (h : SubP bs rs) : bs.length ≤ rs.length := by
  obtain ⟨ks, h1, h2⟩ := h
  rw [h2.length_eq]; exact h1.length_le
@[simp ↓] theorem mCall_d {mm : List D → List O → R D} {ds : List D} {mr : M (List D)} {σ : Vi.Env} : mCall mm ds mr σ A = (mr σ A).bind fun xs A => mm (xs ++ ds) A := rfl
end
end Mb
end
section
set_option Elab.async false
set_option linter.all false
set_option maxRecDepth 100000
set_option maxHeartbeats 4000000
namespace Vi
open PySem PySem.Spec L2
end Vi
namespace Mb
open PySem PySem.Spec L2 Vi
end Mb
end
section
set_option Elab.async false
set_option linter.all false
set_option maxRecDepth 100000
set_option maxHeartbeats 4000000
namespace Mb
open PySem PySem.Spec L2 Vi
section
variable {m n s : Nat} {d e : D} {r : List Bool} {A : List O}
theorem lans_f (hm : m ≤ 10) (hr : r.length = m) (hn : n ≤ 16) (h : Dec m n s d) {f : Nat} (hf : n ≤ f) (A : List O) : m_law_answer f [d, rowD r] A = .ok (.bl (ansB d r)) A := by
  obtain ⟨b, a1, a2⟩ := ans_ok hm hr (by omega) h
  have : ansB d r = b := by
    unfold ansB
    rw [a1 34 [] (by omega)]
  rw [this]
  exact a2 f A hf
theorem ansB_not (hm : m ≤ 10) (hr : r.length = m) (hn : n ≤ 15) (h : Dec m n s e) : ansB (.tup [.str "not", e]) r = !ansB e r := by
  have h2 : Dec m (n + 1) (s + 1) (.tup [.str "not", e]) := .inr (.inl ⟨e, s, rfl, h, Nat.le_refl _⟩)
  have := lans_f hm hr (by omega) h2 (Nat.le_refl _) []
  have e1 := lans_f hm hr (by omega) h (Nat.le_refl _) []
  rw [law_answer_s] at this
  simp [b_law_answer, e1] at this
  rw [this, Bool.not_not]
theorem ansB_and (hm : m ≤ 10) (hr : r.length = m) (hn : n ≤ 15) {es : List D} (h0 : es ≠ []) (hl : es.length ≤ 6) (h : ∀ e ∈ es, Dec m n s e) : ansB (.tup [.str "and", .tup es]) r = es.all fun e => ansB e r := by
  have h2 : Dec m (n + 1) (es.length * s + 1) (.tup [.str "and", .tup es]) := .inr (.inr (.inl ⟨true, es, s, rfl, h0, hl, h, Nat.le_refl _⟩))
  have := lans_f hm hr (by omega) h2 (Nat.le_refl _) []
  have hp : ∀ e ∈ es, Pyd (3 * n) (64 * s) e := fun e he => (h e he).py hm
  have L3 : lcD (fun _ => True) (tgN 4) (mNotT (mTru (mCall (m_law_answer n) [] (mArgs (mVar 4) (mArgs (mVar 1) mArgs0))))) (mVar 4) [some (.tup [.str "and", .tup es]), some (rowD r), none, none, none] es [] [] = .ok (es.filter fun e => !ansB e r) [] := by
    rw [lcD_pure (fun e => !ansB e r) (fun e => e) trivial (by simp; omega) fun e he => ?_]
    · simp
    have := lans_f hm hr (by omega) (h e he) (Nat.le_refl _) []
    exact ⟨_, tgN_e, by simp [this], fun _ => by simp⟩
  have F2 : (es.filter fun e => !ansB e r).length < 16777216 := Nat.lt_of_le_of_lt (List.length_filter_le ..) (by omega)
  have E2 := (eq_lnil (ds := es.filter fun e => !ansB e r) (A := []) (by omega) fun e he => hp e (List.mem_filter.mp he).1).1
  have B2 : (es.filter fun e => !ansB e r).isEmpty = es.all fun e => ansB e r := by
    rw [Bool.eq_iff_iff]; simp
  rw [B2] at E2
  rw [law_answer_s] at this
  simp [b_law_answer, wipeD, L3, F2, E2] at this
  rw [← this, Bool.eq_iff_iff]
theorem ansB_or (hm : m ≤ 10) (hr : r.length = m) (hn : n ≤ 15) {es : List D} (h0 : es ≠ []) (hl : es.length ≤ 6) (h : ∀ e ∈ es, Dec m n s e) : ansB (.tup [.str "or", .tup es]) r = es.any fun e => ansB e r := by
  have h2 : Dec m (n + 1) (es.length * s + 1) (.tup [.str "or", .tup es]) := .inr (.inr (.inl ⟨false, es, s, rfl, h0, hl, h, Nat.le_refl _⟩))
  have := lans_f hm hr (by omega) h2 (Nat.le_refl _) []
  have hp : ∀ e ∈ es, Pyd (3 * n) (64 * s) e := fun e he => (h e he).py hm
  have L3 : lcD (fun _ => True) (tgN 4) (mTru (mCall (m_law_answer n) [] (mArgs (mVar 4) (mArgs (mVar 1) mArgs0)))) (mVar 4) [some (.tup [.str "or", .tup es]), some (rowD r), none, none, none] es [] [] = .ok (es.filter fun e => ansB e r) [] := by
    rw [lcD_pure (fun e => ansB e r) (fun e => e) trivial (by simp; omega) fun e he => ?_]
    · simp
    have := lans_f hm hr (by omega) (h e he) (Nat.le_refl _) []
    exact ⟨_, tgN_e, by simp [this], fun _ => by simp⟩
  have F2 : (es.filter fun e => ansB e r).length < 16777216 := Nat.lt_of_le_of_lt (List.length_filter_le ..) (by omega)
  have E2 := (eq_lnil (ds := es.filter fun e => ansB e r) (A := []) (by omega) fun e he => hp e (List.mem_filter.mp he).1).2
  have B2 : (!(es.filter fun e => ansB e r).isEmpty) = es.any fun e => ansB e r := by
    rw [Bool.eq_iff_iff]; simp
  rw [B2] at E2
  rw [law_answer_s] at this
  simp [b_law_answer, wipeD, L3, F2, E2] at this
  rw [← this, Bool.eq_iff_iff]
theorem ansB_cases (hm : m ≤ 10) (hr : r.length = m) (hn : n ≤ 15) {ps : List (D × D)} (h0 : ps ≠ []) (hl : ps.length ≤ 4) (h : ∀ p ∈ ps, Dec m n s p.1 ∧ Dec m n s p.2) (he : Dec m n s e) :
    ansB (.tup [.str "cases", .tup (ps.map fun p => .tup [p.1, p.2]), e]) r = (match ps.find? (fun p => ansB p.1 r) with | some p => ansB p.2 r | none => ansB e r) := by
  have h2 : Dec m (n + 1) ((2 * ps.length + 1) * s + 1) (.tup [.str "cases", .tup (ps.map fun p => .tup [p.1, p.2]), e]) := .inr (.inr (.inr ⟨ps, e, s, rfl, h0, hl, h, he, Nat.le_refl _⟩))
  have := lans_f hm hr (by omega) h2 (Nat.le_refl _) []
  have ec := lans_f hm hr (by omega) he (Nat.le_refl _) []
  have LL : ∀ (ps : List (D × D)), (∀ p ∈ ps, Dec m n s p.1 ∧ Dec m n s p.2) → ∀ (c x y z : Option D), ∃ x' y', forD (fun _ => True) (tgT 2 (tgsCons (tgN 2) (tgsCons (tgN 3) tgsNil))) (sIf (mTru (mCall (m_law_answer n) [] (mArgs (mVar 2) (mArgs (mVar 1) mArgs0)))) (sRet (mCall (m_law_answer n) [] (mArgs (mVar 3) (mArgs (mVar 1) mArgs0)))) sPass) (ps.map fun p => .tup [p.1, p.2]) [c, some (rowD r), x, y, z] [] = (match ps.find? (fun p => ansB p.1 r) with | some p => .ok (.rt (.bl (ansB p.2 r))) [] | none => .ok (.nx [c, some (rowD r), x', y', z]) []) := fun ps => by
    induction ps with
    | nil => intro _ c x y z; exact ⟨x, y, by simp [forD]⟩
    | cons p ps ih =>
      intro hps c x y z
      obtain ⟨d1, d2⟩ := hps p (List.mem_cons_self ..)
      have a1 := lans_f hm hr (by omega) d1 (Nat.le_refl _) []
      have a2 := lans_f hm hr (by omega) d2 (Nat.le_refl _) []
      obtain ⟨x', y', e'⟩ := ih (fun q hq => hps q (List.mem_cons_of_mem _ hq)) c (some p.1) (some p.2) z
      refine ⟨x', y', ?_⟩
      rw [List.map_cons, forD, if_pos trivial]
      cases hb : ansB p.1 r with
      | true => simp [a1, a2, hb]
      | false => simp [a1, hb, e']
  obtain ⟨x', y', e'⟩ := LL ps h (some (.tup [.str "cases", .tup (ps.map fun p => .tup [p.1, p.2]), e])) none none none
  rw [law_answer_s] at this
  cases hfd : ps.find? (fun p => ansB p.1 r) <;> rw [hfd] at e' <;> simp [b_law_answer, e', ec] at this <;> exact this.symm
end
end Mb
end
section
set_option Elab.async false
set_option linter.all false
set_option maxRecDepth 100000
set_option maxHeartbeats 4000000
namespace Mb
open PySem PySem.Spec L2 Vi
end Mb
end
section
set_option Elab.async false
set_option linter.all false
set_option maxRecDepth 100000
set_option maxHeartbeats 4000000
namespace Mb
open PySem PySem.Spec L2 Vi
section
variable {m w n : Nat} {d d2 : D} {X bs rs : List (List Bool)} {A : List O}
/-! the wide decision -/
theorem Pyd.lst {k L : Nat} {ds : List D} (r : Pyl k L ds) : Pyd (k + 1) (L + 3) (.lst ds) := by
  obtain ⟨xs, f, b1, b2, b3, b4, b5⟩ := r
  refine ⟨.list xs, fun A j hj => ?_, by simpa [PyData.canLay0] using b1, by simp only [PyData.depth]; omega, by simpa [PyData.showable] using b3, by simpa [PyData.hasDict] using b4, ?_⟩
  · obtain ⟨i, rfl⟩ : ∃ i, j = i + 1 := ⟨j - 1, by omega⟩
    show (pys (py A i) ds).map _ = _
    rw [f A i (by omega)]; rfl
  · rw [PyData.shown]
    have h4 : (Str.join ", " (PyData.shownAll xs)).length ≤ piled (PyData.shownAll xs) := by
      cases h : PyData.shownAll xs with
      | nil => exact Nat.le_refl 0
      | cons t r => have := join_length_add (t :: r) (by simp); omega
    have h1 : (("[" : String) : Str).length = 1 := rfl
    have h2 : (("]" : String) : Str).length = 1 := rfl
    rw [listText_eq_join, strLen_append, strLen_append, h1, h2]
    omega
end
end Mb
end
section
set_option Elab.async false
set_option linter.all false
set_option maxRecDepth 100000
set_option maxHeartbeats 4000000
namespace Vi
open PySem PySem.Spec L2
section
variable {σ σ1 : Env} {A A1 : List O} {mb ms : SM} {L : List String} {C : String} {i : Nat} {js : List Nat} {m : List D → List O → R D} {mr : M (List D)} {d : D} {ns : List Str} {ds : List D} {tab : List (String × Bool)}
@[simp ↓] theorem sRaise_e : sRaise C σ A = .ok (.xc C [] σ) A := rfl
@[simp ↓] theorem sTry_e : sTry L i mb ms σ A = (match mb σ A with
  | .ok (.xc C fs σ1) A1 => if C ∈ L then aftX i (ms (σ1.set i (some (.exc C (fs.map (·.1)) (fs.map (·.2))))) A1) else .no
  | r => r) := rfl
@[simp] theorem aftX_nx : aftX i (.ok (.nx σ) A) = .ok (.nx (σ.set i none)) A := rfl
@[simp] theorem aftX_rt : aftX i (.ok (.rt d) A) = .ok (.rt d) A := rfl
@[simp] theorem isNon_exc : isNon (.exc C ns ds) = false := rfl
@[simp] theorem fIsX_non : fIsX tab .non A = .ok (.bl false) A := rfl
@[simp] theorem fIsX_exc : fIsX tab (.exc C ns ds) A = (match tab.lookup C with
  | some b => .ok (.bl b) A
  | none => .no) := rfl
@[simp ↓] theorem mCallK_e : mCallK m js mr σ A = (mr σ A).bind fun xs A => m (pm js xs) A := rfl
end
/-! list * n -/
end Vi
namespace Mb
open PySem PySem.Spec L2 Vi
theorem runB_xc {N : Nat} {b : SM} {args : List D} {A A' : List O} {e σ : Vi.Env} {C : String} {fs : List (Str × D)} (h : args.map some ++ List.replicate (N - args.length) none = e) (k : b e A = .ok (.xc C fs σ) A') : runB N b args A = .ex C fs A' := by
  unfold runB
  rw [h, k]; rfl
theorem Pyd.bl {k : Nat} {b : Bool} : Pyd k 5 (.bl b) := ⟨.bool b, fun _ j _ => by cases j <;> rfl, rfl, Nat.zero_le _, rfl, rfl, by cases b <;> decide +kernel⟩
section
variable {m w : Nat} {d x : D} {X : List (List Bool)} {A : List O}
theorem last_at {o : O} : (A ++ [o])[A.length]? = some o := by simp
theorem app_last {ds : List D} {x : D} (hl : ds.length < 16777215) : fAppend (.ref A.length) [x] (A ++ [.lst ds]) = .ok .non (A ++ [.lst (ds ++ [x])]) := by
  rw [fAppend_e last_at (by omega)]; simp
end
end Mb
end
section
set_option Elab.async false
set_option linter.all false
set_option maxRecDepth 100000
set_option maxHeartbeats 4000000
namespace Mb
open PySem PySem.Spec L2 Vi
section
variable {m w : Nat} {d x : D} {X rs : List (List Bool)} {r : List Bool} {A : List O}
theorem Pyd.non {k : Nat} : Pyd k 5 .non := ⟨.none, fun _ j _ => by cases j <;> rfl, rfl, Nat.zero_le _, rfl, rfl, by decide +kernel⟩
theorem Pyd.self {k L : Nat} (h : Pyd k L x) (hk : k ≤ 64) (hs : ∀ s, x ≠ .str s) (A : List O) : dEq x x A = .ok (.bl true) A ∧ dNe x x A = .ok (.bl false) A := by
  obtain ⟨px, e1, e2, e3⟩ := h.eqs
  have e4 : PyData.eqv px px = true := PySem.SeqAt.eqv_refl px e2
  have e5 : SeqAt.shaped px = true := by
    simp [SeqAt.shaped, e2]
    omega
  refine ⟨dEq_l ?_ hs, dNe_l ?_ hs⟩
  · unfold dEqD
    simp [e1 A 64 hk, e4, e5]
  · unfold dNeD
    simp [e1 A 64 hk, e4, e5]
end
end Mb
end
section
set_option Elab.async false
set_option linter.all false
set_option maxRecDepth 100000
set_option maxHeartbeats 2000000
namespace Vi
open PySem PySem.Spec L2
/-! len(x) by an own __len__ of the class of x -/
/-! isinstance(x, C) of an own class, x an instance of it or plain data -/
end Vi
end
section
set_option Elab.async false
set_option linter.all false
set_option maxRecDepth 100000
set_option maxHeartbeats 4000000
namespace Mb
open PySem PySem.Spec L2 Vi
/-! a loop that ends within -/
def b2i (b : Bool) : Int := if b then 1 else 0
end Mb
end
section
set_option Elab.async false
set_option linter.all false
set_option maxRecDepth 100000
set_option maxHeartbeats 2000000
namespace Vi
open PySem PySem.Spec L2
/-! x or y, by the truth of x -/
def mOrV (ma mb : M D) : M D := fun σ A => (ma σ A).bind fun x A => (dTru x A).bind fun b A => if b then .ok x A else mb σ A
end Vi
end
section
set_option Elab.async false
set_option linter.all false
set_option maxRecDepth 100000
set_option maxHeartbeats 4000000
namespace Vi
open PySem PySem.Spec L2
section
variable {σ : Env} {A : List O} {ma mb : M D} {C : String} {x : D}
@[simp ↓] theorem mOrV_e : mOrV ma mb σ A = (ma σ A).bind fun x A => (dTru x A).bind fun b A => if b then .ok x A else mb σ A := rfl
end
end Vi
namespace Mb
open PySem PySem.Spec L2 Vi
end Mb
end
section
set_option Elab.async false
set_option linter.all false
set_option maxRecDepth 100000
set_option maxHeartbeats 2000000
namespace Vi
open PySem PySem.Spec L2
/-! repr, of the empty dict too -/
end Vi
end
section
set_option Elab.async false
set_option linter.all false
set_option maxRecDepth 100000
set_option maxHeartbeats 4000000
namespace Mb
open PySem PySem.Spec L2 Vi
/-- the rounds of a law, with what they keep -/
theorem law_forI {K : Int} {i : Nat} {body : SM} {ns : List Int} {rest0 : Vi.Env} {A0 : List O} (hi : 0 < i) (k0 : 1 ≤ K) (k1 : K ≤ 1000) (I : Nat → Vi.Env → List O → Prop) (h0 : I 0 rest0 A0)
    (hb : ∀ (k : Nat) (rest : Vi.Env) (A : List O), (k : Int) < K → I k rest A → ∃ (rest' : Vi.Env) (A' : List O), body ((some (.scr (ns.map D.int)) :: rest).set i (some (.int k))) A = .ok (.nx (some (.scr (ns.map D.int)) :: rest')) A' ∧ I (k + 1) rest' A') :
    ∃ (k : Nat) (rest' : Vi.Env) (A' : List O), (sFor (mSrcA fRange1 (mArgs (mA fMax2 (mArgs (mC (.int 1)) (mArgs (mA fMin2 (mArgs (mC (.int K)) (mArgs (mA fLen (mArgs (mVar 0) mArgs0)) mArgs0))) mArgs0))) mArgs0)) (tgN i) body) (some (.scr (ns.map D.int)) :: rest0) A0 = .ok (.nx (some (.scr (ns.map D.int)) :: rest')) A' ∧ I k rest' A' ∧ (k : Int) ≤ K := by
  obtain ⟨y, c, q1, q4, q6, q5⟩ : ∃ y c : Int, (∀ A, fMin2 [.int K, .int ns.length] A = .ok (.int y) A) ∧ (∀ A, fMax2 [.int 1, .int y] A = .ok (.int c) A) ∧ 1 ≤ c ∧ c ≤ K :=
    ⟨_, _, fun _ => rfl, fun _ => rfl, by split <;> omega, by split <;> split <;> omega⟩
  have c1 : -4611686018427387904 ≤ c := by omega
  have c2 : c < 4611686018427387904 := by omega
  obtain ⟨j, rfl⟩ : ∃ j, i = j + 1 := ⟨i - 1, by omega⟩
  obtain ⟨σ', A', e, rest, rfl, hr⟩ := forD_p (ok := fun _ => True) (tg := tgN (j + 1)) (body := body) (f := fun i : Nat => .int (i : Int)) (xs := List.range c.toNat) (σ := some (.scr (ns.map D.int)) :: rest0) (A := A0)
    (fun p σ A => ∃ rest : Vi.Env, σ = some (.scr (ns.map D.int)) :: rest ∧ I p.length rest A) (fun _ _ _ _ => trivial) ⟨_, rfl, h0⟩
    fun p k q e σ A ⟨rest, hσ, hl⟩ => by
      subst hσ
      have hk : k < c.toNat := List.mem_range.mp (by rw [e]; simp)
      have hkp : k = p.length := by
        have h1 := congrArg (fun l => l[p.length]?) e
        simp [List.getElem?_range] at h1
        by_cases h2 : p.length < c.toNat
        · rw [List.getElem?_eq_getElem (by simpa using h2)] at h1
          simpa using h1.symm
        · have h3 := congrArg List.length e
          simp at h3; omega
      obtain ⟨rest', A', h1, h2⟩ := hb k rest A (by omega) (hkp ▸ hl)
      exact ⟨_, _, _, A', tgN_e, .inl h1, rest', rfl, by rw [List.length_append, ← hkp]; exact h2⟩
  refine ⟨c.toNat, rest, A', ?_, by simpa using hr, by omega⟩
  have e3 := rng_0 (m := c.toNat)
  simp [q1, q4, c1, c2, e3, e]
end Mb
end
section
set_option Elab.async false
set_option linter.all false
set_option maxRecDepth 100000
set_option maxHeartbeats 2000000
namespace Vi
open PySem PySem.Spec L2
/-! range with a step -/
def rngC (lo c : Int) (n : Nat) : List D := (List.range n).map fun i => .int (lo + (i : Nat) * c)
section
noncomputable local instance (priority := 10000) clse (p : Prop) : Decidable p := Classical.propDecidable p
noncomputable def fRange3 (xs : List D) (A : List O) : R Src := match xs with
  | [.int i, .int j, .int c] => if RgC i j c (PySem.Builtin.Range.rangeSize i j c).toNat then .ok (.fix (rngC i c (PySem.Builtin.Range.rangeSize i j c).toNat)) A else .no
  | _ => .no
end
theorem src_rangeC {g : G} {W : Hp} {ρ : List Addr} {lo c : Int} {n : Nat} : SrcR g W ρ (.fix (rngC lo c n)) (Itc lo c n) := by
  intro W' ρ' A H i e hR ok
  refine ⟨fun hi => ?_, fun d hd => ?_⟩
  · have : n ≤ i := by simpa [Src.items, rngC] using hi
    exact this
  · have hd' : (rngC lo c n)[i]? = some d := hd
    unfold rngC at hd'
    rw [List.getElem?_map] at hd'
    obtain ⟨k, h1, rfl⟩ := Option.map_eq_some_iff.mp hd'
    have hk : i < n ∧ k = i := by
      rw [List.getElem?_eq_some_iff] at h1
      obtain ⟨h2, h3⟩ := h1
      rw [List.getElem_range] at h3
      exact ⟨by simpa using h2, h3.symm⟩
    obtain ⟨hi, rfl⟩ := hk
    refine ⟨hi, fun x H' y => ?_⟩
    obtain ⟨rfl, rfl⟩ := y
    exact ⟨W', Ext.refl W' ρ' H', hR, .int _⟩
section
variable {X : Cx} {c : String → Addr} {EX : WX} {tg a b d : Expr} {mr : M (List D)} {p pos : Pos}
theorem si_range3 (hg : Gl X "range") (hm : X.mg "range" = none) (ha : PA X [a, b, d] (tA ⟨X.K, c⟩ EX mr))
    (hs : starEach [a, b, d] X.env = (false, eval a X.env) :: starEach [b, d] X.env := by rfl) (hpl : (backTo pos (starEach [b, d] X.env)).any (·.1) = false := by rfl) : PI X tg (.Call (.Name "range" p) [a, b, d] [] pos) (tI ⟨X.K, c⟩ EX (mSrcA fRange3 mr)) :=
  PI.imp (pi_range3 hg hm ha hs hpl) fun σ H R h => (tM.bind (rel := VRs ⟨X.K, c⟩) (m := mr) (f := fun _ => fRange3) h).weak fun vs H1 ⟨W, ρ, A, σd, xs, hR, hE, rx, hP⟩ => by
    unfold fRange3 at hP
    split at hP
    · cases rx with
      | cons r1 rx => cases rx with
        | cons r2 rx => cases rx with
          | cons r3 rx =>
            cases rx
            cases r1
            cases r2
            cases r3
            split at hP
            · rename_i hj
              exact ⟨_, _, _, _, rfl, hj, Post.val hR src_rangeC hP⟩
            · exact hP.elim
    · exact hP.elim
end
theorem fRange3_e {i j c : Int} {n : Nat} (h : RgC i j c n) (A : List O) : fRange3 [.int i, .int j, .int c] A = .ok (.fix (rngC i c n)) A := by
  have e : (PySem.Builtin.Range.rangeSize i j c).toNat = n := by rw [h.2.2.2]; rfl
  have h2 : RgC i j c (PySem.Builtin.Range.rangeSize i j c).toNat := by rw [e]; exact h
  exact (if_pos h2).trans (by rw [e])
theorem rgc_two {n : Nat} (hn : n < 100000) : RgC 0 (2 * (n : Int)) 2 n := by
  have e : PySem.Builtin.Range.rangeSize 0 (2 * (n : Int)) 2 = n := by
    unfold PySem.Builtin.Range.rangeSize
    split
    · split <;> omega
    · omega
  refine ⟨by decide, by decide, ?_, e⟩
  have f : ∀ z : Int, -1000000 ≤ z → z ≤ 1000000 → Builtin.Range.rangeFitsLong z = true := fun z h0 h1 => by
    unfold Builtin.Range.rangeFitsLong
    rw [Bool.and_eq_true]
    exact ⟨decide_eq_true (by omega), decide_eq_true (by omega)⟩
  unfold Builtin.Range.small
  rw [e]
  rw [f 0 (by omega) (by omega), f _ (by omega) (by omega), f 2 (by omega) (by omega), f _ (by omega) (by omega), if_pos (show (2 : Int) > 0 by decide), f _ (by omega) (by omega)]
  simp
theorem rngC_two {n : Nat} (hn : n < 100000) (A : List O) : fRange3 [.int 0, .int (2 * (n : Int)), .int 2] A = .ok (.fix (rngC 0 2 n)) A := fRange3_e (rgc_two hn) A
end Vi
end
section
set_option Elab.async false
set_option linter.all false
set_option maxRecDepth 100000
set_option maxHeartbeats 4000000
namespace Mb
open PySem PySem.Spec L2 Vi
noncomputable def b_rebuilt : SM :=
  (sSeq (sIf (mBl (m2 dEq (m2 dIx (mVar 0) (mC (.int 0))) (mC (.str "not"))))
  (sRet (mA fTup (mArgs (mC (.str "not")) (mArgs (m2 dIx (mVar 1) (mC (.int 0))) mArgs0))))
  sPass)
  (sSeq (sIf (mBl (m2 (dIn false) (m2 dIx (mVar 0) (mC (.int 0))) (mA fTup (mArgs (mC (.str "and")) (mArgs (mC (.str "or")) mArgs0)))))
  (sRet (mA fTup (mArgs (m2 dIx (mVar 0) (mC (.int 0))) (mArgs (mA fTupOf (mArgs (mVar 1) mArgs0)) mArgs0))))
  sPass)
  (sSeq (sIf (mBl (m2 dEq (m2 dIx (mVar 0) (mC (.int 0))) (mC (.str "cases"))))
  (sSeq (sSet 2 (mLc true (mSrcA fRange3 (mArgs (mC (.int 0)) (mArgs (m2 dSub (mA fLen (mArgs (mVar 1) mArgs0)) (mC (.int 1))) (mArgs (mC (.int 2)) mArgs0)))) (tgN 3) mYes (mA fTup (mArgs (m2 dIx (mVar 1) (mVar 3)) (mArgs (m2 dIx (mVar 1) (m2 (dAdd true) (mVar 3) (mC (.int 1)))) mArgs0))) [3]))
  (sRet (mA fTup (mArgs (mC (.str "cases")) (mArgs (mA fTupOf (mArgs (mVar 2) mArgs0)) (mArgs (m2 dIx (mVar 1) (m1 dNeg (mC (.int 1)))) mArgs0))))))
  sPass)
  (sRet (mVar 0)))))
noncomputable def m_rebuilt : List D → List O → R D := runB 4 b_rebuilt
noncomputable def b_law_inner_1 : SM :=
  (sSet 1 (m2 (dAdd false) (mVar 1) (mA (newL true) (mArgs (mVar 2) (mArgs (mVar 3) mArgs0)))))
noncomputable def b_law_inner : SM :=
  (sSeq (sIf (mBl (m2 dEq (m2 dIx (mVar 0) (mC (.int 0))) (mC (.str "not"))))
  (sRet (mA (newL true) (mArgs (m2 dIx (mVar 0) (mC (.int 1))) mArgs0)))
  sPass)
  (sSeq (sIf (mBl (m2 (dIn false) (m2 dIx (mVar 0) (mC (.int 0))) (mA (newL true) (mArgs (mC (.str "and")) (mArgs (mC (.str "or")) mArgs0)))))
  (sRet (mA (fListOf true) (mArgs (m2 dIx (mVar 0) (mC (.int 1))) mArgs0)))
  sPass)
  (sSeq (sSet 1 (mA (newL false) mArgs0))
  (sSeq (sIf (mBl (m2 dEq (m2 dIx (mVar 0) (mC (.int 0))) (mC (.str "cases"))))
  (sSeq (sFor (mSrc (m2 dIx (mVar 0) (mC (.int 1)))) (tgT 2 (tgsCons (tgN 2) (tgsCons (tgN 3) tgsNil)))
  b_law_inner_1)
  (sExpr (mMeth isL fAppend (mVar 1) (mArgs (m2 dIx (mVar 0) (mC (.int 2))) mArgs0))))
  sPass)
  (sRetF 1)))))
noncomputable def m_law_inner : List D → List O → R D := runB 4 b_law_inner
end Mb
end
section
set_option Elab.async false
set_option linter.all false
set_option maxRecDepth 100000
set_option maxHeartbeats 4000000
namespace Mb
open PySem PySem.Spec L2 Vi
/-! decisions as trees: the first word, the parts, the leaves -/
def hdS (d : D) : Str := match d with
  | .tup (.str w :: _) => w
  | _ => "yes"
def wishK (d : D) : Option Nat := match d with
  | .tup [.str w, .int k] => if w = ("wish" : Str) then some k.toNat else none
  | _ => none
def csE : List Bool → Bool
  | t :: a :: b :: r => if t then a else csE (b :: r)
  | [b] => b
  | _ => false
def ev (w : Str) (bs : List Bool) : Bool := if w = ("not" : Str) then !(bs.headD false) else if w = ("and" : Str) then bs.all id else if w = ("or" : Str) then bs.any id
  else if w = ("cases" : Str) then csE bs else decide (w = ("yes" : Str))
@[simp] theorem wk_yes : wishK (.tup [.str "yes"]) = none := rfl
@[simp] theorem wk_no : wishK (.tup [.str "no"]) = none := rfl
@[simp] theorem wk_wish {k : Nat} : wishK (.tup [.str "wish", .int (k : Int)]) = some k := by simp [wishK]
@[simp] theorem wk_tt {w : Str} {es : List D} : wishK (.tup [.str w, .tup es]) = none := rfl
theorem wk_not {e : D} : wishK (.tup [.str "not", e]) = none := by
  unfold wishK
  split
  · rename_i w k h
    simp at h
    rw [← h.1]; exact if_neg (by simp)
  · rfl
@[simp] theorem wk_three {w : Str} {a b : D} : wishK (.tup [.str w, a, b]) = none := by cases a <;> rfl
theorem flat_len {ps : List (D × D)} : (ps.flatMap fun p => [p.1, p.2]).length = 2 * ps.length := by
  induction ps with
  | nil => rfl
  | cons p ps ih => simp at ih ⊢; omega
theorem Dec.node {m n s : Nat} {d : D} (h : Dec m (n + 1) s d) : (∃ k : Nat, k < m ∧ d = .tup [.str "wish", .int k]) ∨ (wishK d = none ∧ ∃ t, (∀ e ∈ inner d, Dec m n t e) ∧ (inner d).length * t + 1 ≤ s) := by
  rcases h with ⟨h, h2 | h2 | ⟨k, hk, h2⟩⟩ | ⟨e, t, h1, h2, h3⟩ | ⟨w, es, t, h1, h2, h3, h4, h5⟩ | ⟨ps, e, t, h1, h2, h3, h4, h5, h6⟩
  · subst h2; exact .inr ⟨rfl, 0, by simp, by simpa using h⟩
  · subst h2; exact .inr ⟨rfl, 0, by simp, by simpa using h⟩
  · exact .inl ⟨k, hk, h2⟩
  · subst h1
    exact .inr ⟨wk_not, t, fun x hx => by rw [inner_not, List.mem_singleton] at hx; rw [hx]; exact h2, by simpa using h3⟩
  · subst h1
    refine .inr ⟨rfl, t, ?_, ?_⟩ <;> cases w <;> simp <;> first | exact h4 | exact h5
  · subst h1
    refine .inr ⟨rfl, t, fun x hx => ?_, ?_⟩
    · rw [inner_cases] at hx
      rcases List.mem_append.mp hx with hx | hx
      · obtain ⟨p, hp, hx⟩ := List.mem_flatMap.mp hx
        simp only [List.mem_cons, List.mem_nil_iff, or_false] at hx
        rcases hx with rfl | rfl
        · exact (h4 p hp).1
        · exact (h4 p hp).2
      · rw [List.mem_singleton.mp hx]; exact h5
    · rw [inner_cases, List.length_append, flat_len]
      exact h6
theorem Dec.wish {m n s k : Nat} (hk : k < m) (h : 1 ≤ s) : Dec m (n + 1) s (.tup [.str "wish", .int (k : Int)]) := .inl ⟨h, .inr (.inr ⟨k, hk, rfl⟩)⟩
/-! the leaves -/
def lvF : Nat → D → List Nat
  | 0, _ => []
  | n + 1, d => match wishK d with
    | some k => [k]
    | none => (inner d).flatMap (lvF n)
def lv (d : D) : List Nat := lvF 20 d
theorem flatMap_congr' {α β : Type} {l : List α} {f g : α → List β} (h : ∀ x ∈ l, f x = g x) : l.flatMap f = l.flatMap g := by
  induction l with
  | nil => rfl
  | cons x l ih => rw [List.flatMap_cons, List.flatMap_cons, h x (List.mem_cons_self ..), ih fun y hy => h y (List.mem_cons_of_mem _ hy)]
theorem lvF_st {m : Nat} : ∀ {n s : Nat} {d : D}, Dec m n s d → ∀ {k k' : Nat}, n ≤ k → n ≤ k' → lvF k d = lvF k' d
  | n + 1, s, d, h, k, k', hk, hk' => by
    obtain ⟨k, rfl⟩ : ∃ j, k = j + 1 := ⟨k - 1, by omega⟩
    obtain ⟨k', rfl⟩ : ∃ j, k' = j + 1 := ⟨k' - 1, by omega⟩
    rcases h.node with ⟨i, hi, rfl⟩ | ⟨hw, t, ht, _⟩
    · simp [lvF]
    · unfold lvF
      simp only [hw]
      exact flatMap_congr' fun e he => lvF_st (ht e he) (by omega) (by omega)
@[simp] theorem lv_wish {k : Nat} : lv (.tup [.str "wish", .int (k : Int)]) = [k] := by simp [lv, lvF]
theorem lv_nd {m n s : Nat} {d : D} (h : Dec m n s d) (hn : n ≤ 20) (hw : wishK d = none) : lv d = (inner d).flatMap lv := by
  cases n with
  | zero => exact h.elim
  | succ n =>
    rcases h.node with ⟨i, hi, rfl⟩ | ⟨_, t, ht, _⟩
    · simp at hw
    · show lvF (19 + 1) d = _
      unfold lvF
      simp only [hw]
      exact flatMap_congr' fun e he => lvF_st (ht e he) (by omega) (by omega)
/-! what a decision answers, by its parts' answers -/
end Mb
end
section
set_option Elab.async false
set_option linter.all false
set_option maxRecDepth 100000
set_option maxHeartbeats 2000000
namespace Vi
open PySem PySem.Spec L2
/-! s.split(sep), s.index(t) -/
end Vi
end
section
set_option Elab.async false
set_option linter.all false
set_option maxRecDepth 100000
set_option maxHeartbeats 2000000
namespace Vi
open PySem PySem.Spec L2
/-! xs[::-1] -/
def dRev (fz : Bool) (x : D) (A : List O) : R D := match lstOf x A with
  | some ds => newL fz ds.reverse A
  | none => .no
def mRev (fz : Bool) (ma : M D) : M D := fun σ A => (ma σ A).bind fun x A => dRev fz x A
@[simp ↓] theorem mRev_e {fz : Bool} {ma : M D} {σ : Env} {A : List O} : mRev fz ma σ A = (ma σ A).bind fun x A => dRev fz x A := rfl
end Vi
end
section
set_option Elab.async false
set_option linter.all false
set_option maxRecDepth 100000
set_option maxHeartbeats 2000000
namespace Vi
open PySem PySem.Spec L2
/-! d.get(k, x) -/
def dctOf (x : D) (A : List O) : Option (List Key × List D) := match x with
  | .dk ks ds => some (ks, ds)
  | .ref n => match A[n]? with
    | some (.dct ks ds) => some (ks, ds)
    | _ => none
  | _ => none
@[simp] theorem dctOf_k {ks : List Key} {ds : List D} {A : List O} : dctOf (.dk ks ds) A = some (ks, ds) := rfl
/-! l.index(x), data of any depth -/
end Vi
end
section
set_option Elab.async false
set_option linter.all false
set_option maxRecDepth 100000
set_option maxHeartbeats 4000000
namespace Vi
open PySem PySem.Spec L2 PyProof.Rows
/-! set(xs) of a list of ints, looked at by len and sorted -/
/-! sorted, each number once -/
section
variable {X : Cx} {c : String → Addr} {EX : WX} {e : Expr} {ma : M D} {p p2 q pos : Pos} {fz : Bool}
def rSetL (K : PySem.W.Frag) (w : World) : List V → Hp → VK → Prop := fun vs H Q => ∃ (l : Addr) (ns : List Int), vs = [V.ref l] ∧ SqL K H l (ns.map V.int) ∧ ns.length < 64 ∧ ∀ (p : Addr) (n : Nat), H p = none → n ≤ ns.length → Q (.ref p) (upd H p (SetO w p (fun j => decide (j ∈ ns)) n))
end
end Vi
end
section
set_option Elab.async false
set_option linter.all false
set_option maxRecDepth 100000
set_option maxHeartbeats 2000000
namespace Vi
open PySem PySem.Spec L2
/-! dict(xs) of a list of pairs, no key twice -/
theorem valV_no {k : Key} : ∀ {kvs : List (Key × V)}, k ∉ kvs.map (·.1) → valV kvs k = none
  | [], _ => rfl
  | p :: kvs, h => by
    simp only [List.map_cons, List.mem_cons, not_or] at h
    rw [valV_neg (fun z => h.1 z.symm), valV_no h.2]
theorem merge_app : ∀ {kvs acc : List (Key × V)}, ((acc ++ kvs).map (·.1)).Nodup → mergeK acc kvs = acc ++ kvs
  | [], acc, _ => by simp [mergeK]
  | p :: kvs, acc, h => by
    have h1 : p.1 ∉ acc.map (·.1) := fun hm => by
      rw [List.map_append, List.nodup_append] at h
      exact h.2.2 p.1 hm p.1 (by simp) rfl
    have h2 : mergeK acc (p :: kvs) = mergeK (putK acc p.1 p.2) kvs := rfl
    rw [h2, putK_new p.2 (valV_no h1), merge_app (by simpa using h)]
    simp
end Vi
end
section
set_option Elab.async false
set_option linter.all false
set_option maxRecDepth 100000
set_option maxHeartbeats 2000000
namespace Vi
open PySem PySem.Spec L2
end Vi
end
section
set_option Elab.async false
set_option linter.all false
set_option maxRecDepth 100000
set_option maxHeartbeats 2000000
namespace Vi
open PySem PySem.Spec L2
/-! sorted(d), d keyed by rows -/
/-! dict(xs) of a list of pairs, which nobody changes -/
end Vi
end
section
set_option Elab.async false
set_option linter.all false
set_option maxRecDepth 100000
set_option maxHeartbeats 2000000
namespace Vi
open PySem PySem.Spec L2
/-! f(a, .., k = v, ..), some by default -/
end Vi
end
section
set_option Elab.async false
set_option linter.all false
set_option maxRecDepth 100000
set_option maxHeartbeats 2000000
namespace Vi
open PySem PySem.Spec L2
/-! a.f, b = ..: a field as a target -/
/-! o.m(k = v, ..) -/
/-! l.count(x), data of any depth -/
end Vi
namespace Vi
open PySem PySem.Spec L2
/-! a, b = x, y of two local names -/
def sPar (i j : Nat) (mr : M (List D)) : SM := withE mr fun σ xs A => match xs with
  | [x, y] => .ok (.nx ((σ.set i (some x)).set j (some y))) A
  | _ => .no
section
variable {X : Cx} {c : String → Addr} {EX : WX} {mr : M (List D)}
theorem ss_par {i j : Nat} {x y : Str} {a b : Expr} {px py pt pos : Pos} {kt k2 : Nat} {pt2 : Pos} (hc : X.calm = true) (hN : X.N.Nodup) (hi : X.N[i]? = some x) (hj : X.N[j]? = some y) (hij : i ≠ j)
    (hx : X.env.scope.names.lookup x = some .local) (hy : X.env.scope.names.lookup y = some .local) (ha : PA X [a, b] (tA ⟨X.K, c⟩ EX mr))
    (hw : swappedStores [.Tuple [.Name x px, .Name y py] kt pt] (.Tuple [a, b] k2 pt2) X.env = pure (some [x, y]) := by rfl)
    (hs : swapsWithSole [.Tuple [.Name x px, .Name y py] kt pt] (.Tuple [a, b] k2 pt2) pos.line X.env = pure false := by rfl) :
    PS X (.Assign [.Tuple [.Name x px, .Name y py] kt pt] (.Tuple [a, b] k2 pt2) pos) (tS ⟨X.K, c⟩ EX (sPar i j mr)) :=
  PS.imp (ps_par hc hN hi hj hij hx hy ha hw hs) fun D' σ H q => (tS.withE (rel := VRs ⟨X.K, c⟩) q).weak fun vs H1 ⟨W, ρ, A, σd, xs, hR, hE, r, hP⟩ => by
    split at hP
    · rename_i d e
      obtain ⟨v, u, rfl, r1, r2⟩ := r.two_
      refine ⟨v, u, rfl, ?_⟩
      exact PostS.val hR hP _ ((hE.set i r1).set j r2)
    · exact hP.elim
end
end Vi
end
section
set_option Elab.async false
set_option linter.all false
set_option maxRecDepth 100000
set_option maxHeartbeats 400000
/-! max(xs, default = d), sum(xs, start = d) of lists of ints -/
namespace ViK
open PySem PyProof.Rows
theorem args_maxd (a d : Value) : argsOk "max" ⟨[a], [(Str.ofString "default", d)]⟩ := by
  unfold argsOk
  kernel_rfl
theorem args_sums (a d : Value) : argsOk "sum" ⟨[a], [(Str.ofString "start", d)]⟩ := by
  unfold argsOk
  kernel_rfl
abbrev lobj (l : List Value) (c : Nat) : Obj := { cls := .type "list", dict := none, data := .seq l.toArray c, slots := #[] }
section
variable {prog : Program} {w : World} {A : Around} {R : Result → Shared → Prop} {J : Addr} {fp wr : List Addr} {n : Nat} {P : Nat → Value → Prop} {St : Nat → Heap → Prop} {dv : Value}
abbrev mcode (J Z : Addr) (dv : Value) : Code := .builtin "max.loop" ⟨[.ref J, .none, .ref Z], [(Str.ofString "default", dv)]⟩
/-- the loop, a default at hand, from the j-th on -/
theorem maxd_on (W : Walks prog w A.in1 J fp wr n P St) (bt : Nat → Nat → Bool) (hc : CmpOf prog w A.in1 .Gt P bt) (Z : Addr) (hZ : Z ∉ fp) : ∀ (k j : Nat) (s : Shared) (b : Value) (c : Nat), n - (j + 1) = k → j + 1 ≤ n → St (j + 1) s.heap → P (argBest bt j) b → s.heap.get? Z = some (lobj [b, b] c) →
    (∀ v h' tk, P (argBest bt (n - 1)) v → (∀ a o, a ∉ wr → a ≠ Z → s.heap.get? a = some o → h'.get? a = some o) → R (.ok (.ret v)) { s with heap := h', toks := tk }) → codeAny (model prog w) A (mcode J Z dv) R s := by
  have nm : (toString "max" ++ toString ".loop" : String) = "max.loop" := by decide
  have zw : Z ∉ wr := fun z => hZ (W.sub _ z)
  intro k
  induction k with
  | zero =>
    intro j s b c hk hj hst hb hz hR
    have jn : j + 1 = n := by omega
    refine codeAny_builtin PySem.F.entry_max_loop ?_
    rw [Around.under_plainId PySem.F.plain_max_loop _]
    refine wpAny_bind (m := seqItems? (.ref Z)) (wpAny_seqItems hz rfl ?_)
    refine wpAny_bind (m := tryCatch (pyNext (.ref J)) _) (wpAny_tryCatch (W.done s _ _ (jn ▸ hst) fun h1 t1 e1 => ?_))
    have hz1 := e1 Z _ zw hz
    refine wpAny_bind (m := updateSeq Z fun _ => #[]) ?_
    refine wpAny_updateSeq hz1 rfl (wpAny_bind (wpAny_letGo (wpAny_pure (hR b _ t1 (by rw [← jn]; exact hb) fun a o ha az q => ?_))))
    exact (Heap.get?_update_other _ _ (Ne.symm az)).trans (e1 a o ha q)
  | succ k ih =>
    intro j s b c hk hj hst hb hz hR
    have jn : j + 1 < n := by omega
    refine codeAny_builtin PySem.F.entry_max_loop ?_
    rw [Around.under_plainId PySem.F.plain_max_loop _]
    refine wpAny_bind (m := seqItems? (.ref Z)) (wpAny_seqItems hz rfl ?_)
    refine wpAny_bind (m := tryCatch (pyNext (.ref J)) _) (wpAny_tryCatch (W.item (j + 1) s _ _ jn hst fun v h1 t1 hv st1 e1 => ?_))
    have hz1 := e1 Z _ zw hz
    refine wpAny_bind (m := tryCatch (holding [v, v] (richCompare .Gt v b >>= _)) _) (wpAny_tryCatch (wpAny_holding (wpAny_bind (hc (j + 1) (argBest bt j) v b _ _ _ hv hb (wpAny_bind (wpAny_holding (wpAny_truthy_bool (wpAny_bind (wpAny_letGo (wpAny_pure ?_))))))))))
    cases q : bt (j + 1) (argBest bt j) with
    | true =>
      simp only [if_true]
      refine wpAny_bind ?_
      refine wpAny_updateSeq (a := Z) hz1 rfl (wpAny_bind (wpAny_letGo ?_))
      rw [nm]
      refine wpAny_pure ⟨plainId_quiet PySem.F.plain_max_loop _, ih (j + 1) _ v _ (by omega) jn (W.frame _ _ _ st1 fun a ha o z => ?_) (by simp only [argBest, q, if_true]; exact hv) (Heap.get?_update_self _ hz1 rfl) fun v2 h2 t2 hv2 e2 => ?_⟩
      · exact (Heap.get?_update_other _ _ (fun y : Z = a => hZ (by rw [y]; exact ha))).trans z
      · exact hR v2 h2 t2 hv2 fun a o ha az z => e2 a o ha az ((Heap.get?_update_other _ _ (Ne.symm az)).trans (e1 a o ha z))
    | false =>
      simp only [Bool.false_eq_true, if_false]
      refine wpAny_bind (wpAny_letGo ?_)
      rw [nm]
      refine wpAny_pure ⟨plainId_quiet PySem.F.plain_max_loop _, ih (j + 1) _ b c (by omega) jn st1 (by simp only [argBest, q, Bool.false_eq_true, if_false]; exact hb) hz1 fun v2 h2 t2 hv2 e2 => ?_⟩
      exact hR v2 h2 t2 hv2 fun a o ha az z => e2 a o ha az (e1 a o ha z)
theorem maxd_first (W : Walks prog w A.in1 J fp wr n P St) (bt : Nat → Nat → Bool) (hc : CmpOf prog w A.in1 .Gt P bt) (Z : Addr) (hZ : Z ∉ fp) (hn : 0 < n) {s : Shared} {c : Nat} (hst : St 0 s.heap) (hz : s.heap.get? Z = some (lobj [] c))
    (hR : ∀ v h' tk, P (argBest bt (n - 1)) v → (∀ a o, a ∉ wr → a ≠ Z → s.heap.get? a = some o → h'.get? a = some o) → R (.ok (.ret v)) { s with heap := h', toks := tk }) : codeAny (model prog w) A (mcode J Z dv) R s := by
  have nm : (toString "max" ++ toString ".loop" : String) = "max.loop" := by decide
  have zw : Z ∉ wr := fun z => hZ (W.sub _ z)
  refine codeAny_builtin PySem.F.entry_max_loop ?_
  rw [Around.under_plainId PySem.F.plain_max_loop _]
  refine wpAny_bind (m := seqItems? (.ref Z)) (wpAny_seqItems hz rfl ?_)
  refine wpAny_bind (m := tryCatch (pyNext (.ref J)) _) (wpAny_tryCatch (W.item 0 s _ _ hn hst fun v h1 t1 hv st1 e1 => ?_))
  have hz1 := e1 Z _ zw hz
  refine wpAny_bind (m := updateSeq Z fun _ => #[v, v]) (wpAny_updateSeq hz1 rfl ?_)
  rw [nm]
  refine wpAny_pure ⟨plainId_quiet PySem.F.plain_max_loop _, maxd_on W bt hc Z hZ _ 0 _ v _ rfl hn (W.frame _ _ _ st1 fun a ha o z => ?_) hv (Heap.get?_update_self _ hz1 rfl) fun v2 h2 t2 hv2 e2 => ?_⟩
  · exact (Heap.get?_update_other _ _ (fun y : Z = a => hZ (by rw [y]; exact ha))).trans z
  · exact hR v2 h2 t2 hv2 fun a o ha az z => e2 a o ha az ((Heap.get?_update_other _ _ (Ne.symm az)).trans (e1 a o ha z))
theorem maxd_none (W : Walks prog w A.in1 J fp wr 0 P St) (Z : Addr) (hZ : Z ∉ fp) {s : Shared} {c : Nat} (hst : St 0 s.heap) (hz : s.heap.get? Z = some (lobj [] c))
    (hR : ∀ h' tk, (∀ a o, a ∉ wr → a ≠ Z → s.heap.get? a = some o → h'.get? a = some o) → R (.ok (.ret dv)) { s with heap := h', toks := tk }) : codeAny (model prog w) A (mcode J Z dv) R s := by
  refine codeAny_builtin PySem.F.entry_max_loop ?_
  rw [Around.under_plainId PySem.F.plain_max_loop _]
  refine wpAny_bind (m := seqItems? (.ref Z)) (wpAny_seqItems hz rfl ?_)
  refine wpAny_bind (m := tryCatch (pyNext (.ref J)) _) (wpAny_tryCatch (W.done s _ _ hst fun h1 t1 e1 => ?_))
  exact wpAny_bind (wpAny_rule (wpAny_pure (hR h1 t1 fun a o ha _ q => e1 a o ha q)))
end
section
variable {prog : Program} {w : World} {A : Around} {E : Value → Shared → Prop} {s : Shared}
/-- a function called with keywords, whatever it comes to -/
theorem call_tree {id : String} {b : Builtin} {xs : List Value} {kw : List (Str × Value)} {Q : Value → Shared → Prop} (hk : builtinKind id = none) (hp : plainId id = true) (hb : entryFor table id = some b) (ha : argsOk id ⟨xs, kw⟩)
    (hc : wpAny (model prog w) A.in1 (b ⟨xs, kw⟩) (fun f s1 => match f with | .done f => (match (Except.ok f : Result) with | .ok (.ret v) => Q v s1 | .ok _ => False | .error e => E e s1) | .again c1 => c1.quiet = true ∧ codeAny (model prog w) A c1 (fun r s1 => match r with | .ok (.ret v) => Q v s1 | .ok _ => False | .error e => E e s1) s1) E s) :
    wpAny (model prog w) A (call (.builtin id) xs kw) Q E s := by
  refine wpAny_call (codeAny_call_builtin hp hb ?_)
  simp only [checkBuiltinCall, hk]
  cases q : Manifest.signature? id with
  | none => exact wpAny_pure hc
  | some sg =>
    have ha2 : Bind.checkArgs id sg ⟨xs, kw⟩ = pure () := by simpa only [argsOk, q] using ha
    simp only [ha2]
    exact wpAny_pure hc
theorem call_maxd {x dv : Value} {Q : Value → Shared → Prop}
    (h : wpAny (model prog w) A.in1 (pyIter x) (fun it s2 => ∃ J fp wr n P St bt, it = .ref J ∧ Walks prog w A.in1 J fp wr n P St ∧ St 0 s2.heap ∧ (∀ b ∈ fp, b < s2.heap.objs.size) ∧ CmpOf prog w A.in1 .Gt P bt ∧
      (n = 0 → ∀ h' tk, (∀ b o, b ∉ wr → s2.heap.get? b = some o → h'.get? b = some o) → Q dv { s2 with heap := h', toks := tk }) ∧
      (0 < n → ∀ v h' tk, P (argBest bt (n - 1)) v → (∀ b o, b ∉ wr → s2.heap.get? b = some o → h'.get? b = some o) → Q v { s2 with heap := h', toks := tk })) E s) :
    wpAny (model prog w) A (call (.builtin "max") [x] [(Str.ofString "default", dv)]) Q E s := by
  have nm : (toString "max" ++ toString ".loop" : String) = "max.loop" := by decide
  refine call_tree PySem.F.kind_max PySem.F.plain_max PySem.F.entry_max (args_maxd _ _) ?_
  refine wpAny_bind (m := Builtin.Builtins.bindParams "max" ["key", "default"] 0 ⟨[], [(Str.ofString "default", dv)]⟩) (wpAny_of_eq (show Builtin.Builtins.bindParams "max" ["key", "default"] 0 ⟨[], [(Str.ofString "default", dv)]⟩ = pure [none, some dv] from rfl) ?_)
  refine wpAny_bind (wpAny_pure ?_)
  refine wpAny_bind (wpAny_mono h (fun it s2 h2 => ?_) fun _ _ e => e)
  obtain ⟨J, fp, wr, n, P, St, bt, rfl, W, hst, hfp, hc, q0, q1⟩ := h2
  refine wpAny_bind (wpAny_newObj_type ?_)
  have hZ : s2.heap.objs.size ∉ fp := fun hm => Nat.lt_irrefl _ (hfp _ hm)
  rw [nm]
  have st0 := W.frame 0 s2.heap _ hst fun b _ o e => Heap.get?_push_of_some (lobj [] 0) e
  have old : ∀ {h' : Heap}, (∀ b o, b ∉ wr → b ≠ s2.heap.objs.size → (s2.heap.push (lobj [] 0)).get? b = some o → h'.get? b = some o) → ∀ b o, b ∉ wr → s2.heap.get? b = some o → h'.get? b = some o :=
    fun hk b o hb e => hk b o hb (Nat.ne_of_lt (Heap.lt_size e)) (Heap.get?_push_of_some _ e)
  rcases Nat.eq_zero_or_pos n with z | z
  · subst z
    exact wpAny_pure ⟨plainId_quiet PySem.F.plain_max_loop _, maxd_none W _ hZ st0 (Heap.get?_push_size _ rfl) fun h' tk hk => q0 rfl h' tk (old hk)⟩
  · exact wpAny_pure ⟨plainId_quiet PySem.F.plain_max_loop _, maxd_first W bt hc _ hZ z st0 (Heap.get?_push_size _ rfl) fun v h' tk hv hk => q1 z v h' tk hv (old hk)⟩
def shV (d : Int) (val : Nat → Int) : Nat → Int
  | 0 => d
  | k + 1 => val k
theorem shV_sum {d : Int} {val : Nat → Int} : ∀ n, preSum (shV d val) (n + 1) = d + preSum val n
  | 0 => by
    show (0 : Int) + d = d + 0
    omega
  | n + 1 => by
    have e := shV_sum (d := d) (val := val) n
    show preSum (shV d val) (n + 1) + val n = d + (preSum val n + val n)
    omega
theorem shW {J : Addr} {fp wr : List Addr} {n : Nat} {P : Nat → Value → Prop} {St : Nat → Heap → Prop} (W : Walks prog w A J fp wr n P St) : Walks prog w A J fp wr (n + 1) (fun i v => ∃ k, i = k + 1 ∧ P k v) (fun i h => ∃ k, i = k + 1 ∧ St k h) where
  sub := W.sub
  frame := fun i h h' ⟨k, e, st⟩ q => ⟨k, e, W.frame k h h' st q⟩
  item := fun i s Q E hi ⟨k, e, st⟩ hQ => by
    subst e
    exact W.item k s Q E (by omega) st fun v h' tk hv st' q => hQ v h' tk ⟨k, rfl, hv⟩ ⟨k + 1, rfl, st'⟩ q
  done := fun s Q E ⟨k, e, st⟩ hQ => by
    obtain rfl : n = k := by omega
    exact W.done s Q E st hQ
  self := fun i s Q E ⟨k, e, st⟩ hQ => W.self k s Q E st hQ
theorem call_sums {x : Value} {d : Int} {td : Tok} {Q : Value → Shared → Prop}
    (h : wpAny (model prog w) A.in1 (pyIter x) (fun it s2 => ∃ J fp wr n P St val, it = .ref J ∧ Walks prog w A.in1 J fp wr n P St ∧ St 0 s2.heap ∧ (∀ b ∈ fp, b < s2.heap.objs.size) ∧ (∀ i v, P i v → ∃ t, v = .int (val i) t) ∧
      ∀ h' tk t', (∀ b o, b ∉ wr → s2.heap.get? b = some o → h'.get? b = some o) → Q (.int (d + preSum val n) t') { s2 with heap := h', toks := tk }) E s) :
    wpAny (model prog w) A (call (.builtin "sum") [x] [(Str.ofString "start", .int d td)]) Q E s := by
  refine call_tree PySem.F.kind_sum PySem.F.plain_sum PySem.F.entry_sum (args_sums _ _) ?_
  unfold Builtin.«sum»
  simp only [List.length_cons, List.length_nil]
  rw [if_neg (by decide)]
  refine wpAny_bind (wpAny_of_eq (show Builtin.Builtins.bindParams "sum" ["start"] 0 ⟨[], [(Str.ofString "start", .int d td)]⟩ = pure [some (.int d td)] from rfl) ?_)
  refine wpAny_bind (wpAny_mono h (fun it s2 h2 => ?_) fun _ _ e => e)
  obtain ⟨J, fp, wr, n, P, St, val, rfl, W, hst, hfp, hval, hQ⟩ := h2
  dsimp only
  have hZ : s2.heap.objs.size ∉ fp := fun hm => Nat.lt_irrefl _ (hfp _ hm)
  have e0 : preSum (shV d val) 1 = d := by
    show (0 : Int) + d = d
    omega
  have hv2 : ∀ i v, (∃ k, i = k + 1 ∧ P k v) → ∃ t, v = .int (shV d val i) t := fun i v ⟨k, e, hk⟩ => by
    subst e
    exact hval k v hk
  have fin : ∀ (t1 : Tok) (tk : Nat) (stage : Int), (stage = 0 ∨ stage = 2) → codeAny (model prog w) A (.builtin "sum.loop" ⟨[.ref J, .ref s2.heap.objs.size, rawInt stage, rawInt 0], []⟩) (fun r s1 => match r with | .ok (.ret v) => Q v s1 | .ok _ => False | .error e => E e s1) { s2 with heap := s2.heap.push (lobj [.int d t1] 0), toks := tk } := fun t1 tk stage hs => by
    have old : ∀ {h' : Heap}, (∀ b o, b ∉ wr → b ≠ s2.heap.objs.size → (s2.heap.push (lobj [.int d t1] 0)).get? b = some o → h'.get? b = some o) → ∀ b o, b ∉ wr → s2.heap.get? b = some o → h'.get? b = some o :=
      fun hk b o hb e => hk b o hb (Nat.ne_of_lt (Heap.lt_size e)) (Heap.get?_push_of_some _ e)
    refine codeAny_sum_loopG (shW W) (shV d val) hv2 s2.heap.objs.size hZ n 1 _ t1 0 stage hs (by omega) (by omega) ⟨0, rfl, W.frame 0 s2.heap _ hst fun b _ o e => Heap.get?_push_of_some (lobj [.int d t1] 0) e⟩ (by rw [e0]; exact Heap.get?_push_size _ rfl) fun h' tk t' hk => ?_
    rw [shV_sum]
    exact hQ h' tk t' (old hk)
  simp only [List.forIn_cons, List.forIn_nil]
  split
  · refine wpAny_bind (wpAny_rule (wpAny_bind (wpAny_mkInt (wpAny_bind (wpAny_pure ?_)))))
    refine wpAny_bind (wpAny_bind (wpAny_bind (wpAny_isInstance (T := "int") (b := false) (typeIs_int _ _ _) PySem.F.sub_int_str ?_)))
    simp only [Bool.false_eq_true, if_false]
    refine wpAny_pure (wpAny_bind (wpAny_bind (wpAny_isInstance (T := "int") (b := false) (typeIs_int _ _ _) PySem.F.sub_int_bytes ?_)))
    simp only [Bool.false_eq_true, if_false]
    refine wpAny_pure (wpAny_bind (wpAny_bind (wpAny_isInstance (T := "int") (b := false) (typeIs_int _ _ _) PySem.F.sub_int_bytearray ?_)))
    simp only [Bool.false_eq_true, if_false]
    exact wpAny_pure (wpAny_pure (wpAny_bind (wpAny_newObj_type (wpAny_pure ⟨plainId_quiet PySem.F.plain_sum_loop _, fin _ _ _ (.inl rfl)⟩))))
  · refine wpAny_bind (wpAny_pure ?_)
    refine wpAny_bind (wpAny_bind (wpAny_bind (wpAny_isInstance (T := "int") (b := false) (typeIs_int _ _ _) PySem.F.sub_int_str ?_)))
    simp only [Bool.false_eq_true, if_false]
    refine wpAny_pure (wpAny_bind (wpAny_bind (wpAny_isInstance (T := "int") (b := false) (typeIs_int _ _ _) PySem.F.sub_int_bytes ?_)))
    simp only [Bool.false_eq_true, if_false]
    refine wpAny_pure (wpAny_bind (wpAny_bind (wpAny_isInstance (T := "int") (b := false) (typeIs_int _ _ _) PySem.F.sub_int_bytearray ?_)))
    simp only [Bool.false_eq_true, if_false]
    exact wpAny_pure (wpAny_pure (wpAny_bind (wpAny_newObj_type (wpAny_pure ⟨plainId_quiet PySem.F.plain_sum_loop _, fin _ _ _ (.inr rfl)⟩))))
end
section
variable {prog : Program} {w : World} {A : Around} {E : Value → Shared → Prop} {s : Shared} {l : Addr} {its : List Value} {ns : List Int}
open L2 in
theorem maxd_raw {dv : Value} {Q : Value → Shared → Prop} (hh : A.handled = none) (hl : s.heap.IsList l its.toArray) (hi : IntsAre its ns)
    (h0 : ns = [] → ∀ h' tk, (∀ b o, s.heap.get? b = some o → h'.get? b = some o) → Q dv { s with heap := h', toks := tk })
    (h : ns ≠ [] → ∀ h' tk M t', (∀ b o, s.heap.get? b = some o → h'.get? b = some o) → M ∈ ns → (∀ a, a ∈ ns → a ≤ M) → Q (.int M t') { s with heap := h', toks := tk }) : wpAny (model prog w) A (call (.builtin "max") [.ref l] [(Str.ofString "default", dv)]) Q E s := by
  obtain ⟨xs, e⟩ := hi.allInts.items
  have hn : numsOf (intItems xs).toList = ns := by
    rw [← e]
    exact hi.numsOf
  rw [nums_intItems] at hn
  subst hn
  rw [e] at hl
  have hs0 : (xs.toList.map (·.1)).length = xs.size := by simp
  refine call_maxd (iter_intList hl fun s2 e2 st hfp hlI => ?_)
  subst e2
  refine ⟨_, _, _, _, _, _, _, rfl, Walks.list (A := A.in1) hh _ l hlI (intItems xs), st, hfp, CmpOf.ints_gt (numAt xs) (fun _ _ => intItems_at), fun z h' tk hk => ?_, fun z v h' tk hP hk => ?_⟩
  · have z2 : xs.size = 0 := by simpa [intItems] using z
    exact h0 (List.length_eq_zero_iff.mp (hs0.trans z2)) h' tk (old_kept hk)
  · have hz : 0 < xs.size := by simpa [intItems] using z
    have hP2 : (intItems xs)[argBest (fun i j => decide (numAt xs i > numAt xs j)) (xs.size - 1)]? = some v := by simpa [intItems] using hP
    obtain ⟨t, rfl⟩ := intItems_at hP2
    obtain ⟨g1, g2⟩ := argBest_gt (numAt xs) (xs.size - 1)
    refine h (fun z => by rw [z] at hs0; simp at hs0; omega) h' tk _ t (old_kept hk) ?_ fun a ha => ?_
    · rw [numAt_eq]
      exact PySem.getD_mem (by rw [hs0]; omega)
    · obtain ⟨j, hj, rfl⟩ := mem_getD ha
      rw [hs0] at hj
      rw [← numAt_eq]
      exact g2 j (by omega)
theorem sums_raw {d : Int} {td : Tok} {Q : Value → Shared → Prop} (hh : A.handled = none) (hl : s.heap.IsList l its.toArray) (hi : IntsAre its ns)
    (h : ∀ h' tk t', (∀ b o, s.heap.get? b = some o → h'.get? b = some o) → Q (.int (d + ns.sum) t') { s with heap := h', toks := tk }) : wpAny (model prog w) A (call (.builtin "sum") [.ref l] [(Str.ofString "start", .int d td)]) Q E s := by
  obtain ⟨xs, e⟩ := hi.allInts.items
  have hn : numsOf (intItems xs).toList = ns := by
    rw [← e]
    exact hi.numsOf
  rw [nums_intItems] at hn
  rw [e] at hl
  refine call_sums (iter_intList hl fun s2 e2 st hfp hlI => ?_)
  subst e2
  refine ⟨_, _, _, _, _, _, numAt xs, rfl, Walks.list (A := A.in1) hh _ l hlI (intItems xs), st, hfp, (fun _ _ => intItems_at), fun h' tk t' hk => ?_⟩
  have q := h h' tk t' (old_kept hk)
  have z : preSum (numAt xs) (intItems xs).size = ns.sum := by
    rw [show (intItems xs).size = xs.size by simp [intItems], preSum_eq, List.take_of_length_le (by simp), hn]
  rw [z]
  exact q
end
end ViK
namespace Vi
open PySem PySem.Spec L2 PyProof.Rows
def rMaxD (K : PySem.W.Frag) : List V → List V → Hp → VK → Prop := fun vs zs H Q => ∃ (a : Addr) (ns : List Int) (d : Int), vs = [V.ref a] ∧ zs = [V.int d] ∧ SqL K H a (ns.map V.int) ∧ (ns = [] → Q (.int d) H) ∧ (ns ≠ [] → ∀ m, m ∈ ns → (∀ y, y ∈ ns → y ≤ m) → Q (.int m) H)
def rSumS (K : PySem.W.Frag) : List V → List V → Hp → VK → Prop := fun vs zs H Q => ∃ (a : Addr) (ns : List Int) (d : Int), vs = [V.ref a] ∧ zs = [V.int d] ∧ SqL K H a (ns.map V.int) ∧ Q (.int (d + ns.sum)) H
theorem cr_maxD {X : Cx} (hc : X.calm = true) : CallRK X (.builtin "max") [Str.ofString "default"] (rMaxD X.K) := by
  intro pins s σ H vs zs us ws Q I r rz h
  obtain ⟨a, ns, d, rfl, rfl, hs, q0, q1⟩ := h
  obtain ⟨its, rv, hl, _⟩ := I.list hs
  rw [Vals.ref1 r]
  obtain ⟨w1, rfl, t1, rfl⟩ := vals1 rz
  exact ViK.maxd_raw (I.ok.hd hc) hl.isList rv.ints (fun z h' tk hk => ⟨.int _, H, I.kept hk, ⟨_, rfl⟩, q0 z⟩) fun z h' tk m t' hk h1 h2 => ⟨.int _, H, I.kept hk, ⟨_, rfl⟩, q1 z m h1 h2⟩
theorem cr_sumS {X : Cx} (hc : X.calm = true) : CallRK X (.builtin "sum") [Str.ofString "start"] (rSumS X.K) := by
  intro pins s σ H vs zs us ws Q I r rz h
  obtain ⟨a, ns, d, rfl, rfl, hs, q⟩ := h
  obtain ⟨its, rv, hl, _⟩ := I.list hs
  rw [Vals.ref1 r]
  obtain ⟨w1, rfl, t1, rfl⟩ := vals1 rz
  exact ViK.sums_raw (I.ok.hd hc) hl.isList rv.ints fun h' tk t' hk => ⟨.int _, H, I.kept hk, ⟨_, rfl⟩, q⟩
/-- max(xs, default = d) -/
def maxL (d : Int) : List Int → Int
  | [] => d
  | x :: xs => xs.foldl max x
theorem foldl_max : ∀ (xs : List Int) (x : Int), xs.foldl max x ∈ x :: xs ∧ ∀ y ∈ x :: xs, y ≤ xs.foldl max x
  | [], x => by simp
  | z :: xs, x => by
    obtain ⟨h1, h2⟩ := foldl_max xs (max x z)
    rw [List.foldl_cons]
    constructor
    · rcases List.mem_cons.mp h1 with e | e
      · rw [e]
        rcases Int.le_total x z with q | q
        · rw [Int.max_eq_right q]; simp
        · rw [Int.max_eq_left q]; simp
      · exact List.mem_cons_of_mem _ (List.mem_cons_of_mem _ e)
    · intro y hy
      have h3 := h2 (max x z) List.mem_cons_self
      rcases List.mem_cons.mp hy with rfl | hy
      · exact Int.le_trans (Int.le_max_left ..) h3
      · rcases List.mem_cons.mp hy with rfl | hy
        · exact Int.le_trans (Int.le_max_right ..) h3
        · exact h2 y (List.mem_cons_of_mem _ hy)
def fMaxD (d : Int) (xs : List D) (A : List O) : R D := match xs with
  | [x] => match (lstOf x A).bind intsOf with
    | some is => .ok (.int (maxL d is)) A
    | none => .no
  | _ => .no
def fSumS (d : Int) (xs : List D) (A : List O) : R D := match xs with
  | [x] => match (lstOf x A).bind intsOf with
    | some is => .ok (.int (d + is.sum)) A
    | none => .no
  | _ => .no
theorem cs_maxD {g : G} {d : Int} : CallS g (fun vs H Q => rMaxD g.K vs [.int d] H Q) (fMaxD d) := by
  intro EX W ρ A H σ xs vs Q hR r h
  unfold fMaxD at h
  split at h
  · obtain ⟨v, rfl, r1⟩ := r.one_
    split at h
    · rename_i bs e
      obtain ⟨ds, e1, e2⟩ := Option.bind_eq_some_iff.mp e
      obtain ⟨a, us, rfl, hq, r2⟩ := lstOf_ok hR r1 e1
      cases Rl.ints_ r2 e2
      have q := Post.val hR (.int _) h
      refine ⟨a, bs, d, rfl, rfl, SqL.of hq, fun z => ?_, fun z m h1 h2 => ?_⟩
      · subst z; exact q
      · cases bs with
        | nil => exact absurd rfl z
        | cons b bs =>
          obtain ⟨k1, k2⟩ := foldl_max bs b
          have e3 : maxL d (b :: bs) = m := Int.le_antisymm (h2 _ k1) (k2 m h1)
          rw [e3] at q
          exact q
    · exact h.elim
  · exact h.elim
theorem cs_sumS {g : G} {d : Int} : CallS g (fun vs H Q => rSumS g.K vs [.int d] H Q) (fSumS d) := by
  intro EX W ρ A H σ xs vs Q hR r h
  unfold fSumS at h
  split at h
  · obtain ⟨v, rfl, r1⟩ := r.one_
    split at h
    · rename_i bs e
      obtain ⟨ds, e1, e2⟩ := Option.bind_eq_some_iff.mp e
      obtain ⟨a, us, rfl, hq, r2⟩ := lstOf_ok hR r1 e1
      cases Rl.ints_ r2 e2
      exact ⟨a, bs, d, rfl, rfl, SqL.of hq, Post.val hR (.int _) h⟩
    · exact h.elim
  · exact h.elim
section
variable {X : Cx} {c : String → Addr} {EX : WX} {e : Expr} {es : List Expr} {mr : M (List D)}
/-- a built-in called with one keyword, a number -/
theorem se_callBK {id : String} {r : List V → List V → Hp → VK → Prop} {f : List D → List O → R D} {x nm : Str} {p pos kp cp : Pos} {d : Int} {dk : Nat} (hc : CallRK X (.builtin id) [nm] r) (hs : CallS ⟨X.K, c⟩ (fun vs H Q => r vs [.int d] H Q) f) (hg : Gl X x) (hm : X.mg x = none) (hv : bootBuiltins x = some (.builtin id)) (ha : PA X (e :: es) (tA ⟨X.K, c⟩ EX mr))
    (hn : x ≠ "__name__" := by decide) (hdb : (x == ("__debug__" : Str)) = false := by decide)
    (he : backTo pos (starEach (e :: es) X.env) = (false, eval e X.env) :: backTo pos (starEach es X.env) := by rfl) (hpl : (backTo pos (starEach (e :: es) X.env)).any (·.1) = false := by rfl) :
    PE X (.Call (.Name x p) (e :: es) [⟨some nm, .Constant (.int d) dk cp, kp⟩] pos) (tE ⟨X.K, c⟩ EX (mA f mr)) :=
  PE.imp (pe_callBK hc hg hm hv ha (pk_cons pe_int pk_nil) hn hdb he hpl) fun σ H Q h =>
    (tM.bind (rel := VRs ⟨X.K, c⟩) (m := mr) (f := fun _ => f) h).weak fun v H1 ⟨W, ρ, A, σd, x, hR, hE, rx, hP⟩ => hs hR rx hP
@[simp] theorem fMaxD_l {d : Int} {is : List Int} {A : List O} : fMaxD d [.lst (is.map D.int)] A = .ok (.int (maxL d is)) A := by simp [fMaxD]
@[simp] theorem fSumS_l {d : Int} {is : List Int} {A : List O} : fSumS d [.lst (is.map D.int)] A = .ok (.int (d + is.sum)) A := by simp [fSumS]
end
end Vi
end
section
set_option Elab.async false
set_option linter.all false
set_option maxRecDepth 100000
set_option maxHeartbeats 1000000
namespace Vi
open PySem PySem.Spec L2 PyProof.Rows
/-! a module's tuple; a module's dict of defs; a def held by a local name -/
structure DefT (K : PySem.W.Frag) (w : World) (c : String → Addr) (nm : String) (ks : List Str) (ns : List String) : Prop where
  kd : ∃ es n, KDict K w (c nm) es n
  is : ∀ z : Str, ∃ r, PySem.W.nsIn K (c nm) z = some r ∧ r.isSome = decide (z ∈ ks)
  at_ : ∀ (i : Nat) (k : Str) (x : String), ks[i]? = some k → ns[i]? = some x → PySem.W.nsIn K (c nm) k = some (some (.ref (c x)))
inductive AtL (K : PySem.W.Frag) (c : String → Addr) (d : Addr) : List Str → List String → Prop
  | nil : AtL K c d [] []
  | cons {k : Str} {x : String} {ks : List Str} {ns : List String} : PySem.W.nsIn K d k = some (some (.ref (c x))) → AtL K c d ks ns → AtL K c d (k :: ks) (x :: ns)
theorem defT_at {K : PySem.W.Frag} {c : String → Addr} {d : Addr} : ∀ {ks : List Str} {ns : List String}, AtL K c d ks ns → ∀ (i : Nat) (k : Str) (x : String), ks[i]? = some k → ns[i]? = some x → PySem.W.nsIn K d k = some (some (.ref (c x)))
  | _, _, .nil, _, _, _, h, _ => by simp at h
  | _, _, .cons e _, 0, _, _, h1, h2 => by
    simp at h1 h2
    subst h1 h2
    exact e
  | _, _, .cons _ t, i + 1, k, x, h1, h2 => defT_at t i k x (by simpa using h1) (by simpa using h2)
def dInK (nm : String) (ks : List Str) (neg : Bool) (x y : D) (A : List O) : R D := match x, y with
  | .str s, .cls n => if n = nm then .ok (.bl (if neg then !decide (s ∈ ks) else decide (s ∈ ks))) A else .no
  | _, _ => .no
def dGetK (nm : String) (ks : List Str) (ns : List String) (x y : D) (A : List O) : R D := match x, y with
  | .cls n, .str s => if n = nm then (match ns[ks.idxOf s]? with | some z => if s ∈ ks then .ok (.cls z) A else .no | none => .no) else .no
  | _, _ => .no
def mCallL (i : Nat) (tab : List (String × (List D → List O → R D))) (mr : M (List D)) : M D := fun σ A => match σ[i]? with
  | some (some (.cls n)) => match tab.lookup n with
    | some m => (mr σ A).bind fun xs A => m xs A
    | none => .no
  | _ => .no
section
variable {X : Cx} {c : String → Addr} {EX : WX} {x : Str} {pos p : Pos}
theorem se_gtup {ds : List D} {vs : List V} (hg : Gl X x) (h : ∃ a, X.mg x = some (.ref a) ∧ ∀ H, SqT X.K H a vs) (r : ∀ W ρ, VRs ⟨X.K, c⟩ W ρ ds vs) (hd : (x == ("__debug__" : Str)) = false := by decide) : PE X (.Name x pos) (tE ⟨X.K, c⟩ EX (mC (.tup ds))) := by
  obtain ⟨a, hm, hq⟩ := h
  exact se_c (pe_glob hg hm (v := .ref a) rfl hd) fun W ρ => .tup (hq W) (r W ρ)
theorem se_gobj {nm : String} (hg : Gl X x) (hm : X.mg x = some (.ref (c nm))) (hd : (x == ("__debug__" : Str)) = false := by decide) : PE X (.Name x pos) (tE ⟨X.K, c⟩ EX (mC (.cls nm))) :=
  se_c (pe_glob hg hm (v := .ref (c nm)) rfl hd) fun W ρ => .cls nm
def rInK (K : PySem.W.Frag) (d : Addr) (neg : Bool) : R2 := fun x y H Q => ∃ (z : Str) (r : Option Value), x = .str z ∧ y = .ref d ∧ PySem.W.nsIn K d z = some r ∧ Q (.bl (if neg then !r.isSome else r.isSome)) H
theorem op_notInK {nm : String} {ks : List Str} {ns : List String} (T : DefT X.K X.w c nm ks ns) : OpR X (compareOp .NotIn) (rInK X.K (c nm) true) := by
  obtain ⟨es, n, D⟩ := T.kd
  exact op_notIn_kd D
theorem os_inK {w : World} {K : PySem.W.Frag} {nm : String} {ks : List Str} {ns : List String} {neg : Bool} (T : DefT K w c nm ks ns) : OpS ⟨K, c⟩ (rInK K (c nm) neg) (dInK nm ks neg) := by
  intro EX W ρ A H σ x y v u Q hR rx ry h
  unfold dInK at h
  split at h
  · rename_i s n
    split at h
    · rename_i e
      subst e
      cases rx
      cases ry
      obtain ⟨r, e1, e2⟩ := T.is s
      refine ⟨s, r, rfl, rfl, e1, ?_⟩
      rw [e2]
      exact Post.val hR (.bl _) h
    · exact h.elim
  · exact h.elim
theorem os_getK {w : World} {K : PySem.W.Frag} {nm : String} {ks : List Str} {ns : List String} (T : DefT K w c nm ks ns) : OpS ⟨K, c⟩ (rIxD K w) (dGetK nm ks ns) := by
  intro EX W ρ A H σ x y v u Q hR rx ry h
  unfold dGetK at h
  split at h
  · rename_i n s
    split at h
    · rename_i e
      subst e
      split at h
      · rename_i z ez
        split at h
        · rename_i hm
          cases rx
          cases ry
          obtain ⟨es, n, D⟩ := T.kd
          have hk : ks[ks.idxOf s]? = some s := by
            rw [List.getElem?_eq_getElem (List.idxOf_lt_length_of_mem hm)]
            simp
          exact ⟨_, s, .ref (c z), rfl, rfl, ⟨es, n, _, D.at_, D.lit, T.at_ _ _ _ hk ez, rfl⟩, Post.val hR (.cls z) h⟩
        · exact h.elim
      · exact h.elim
    · exact h.elim
  · exact h.elim
theorem se_getK {nm : String} {ks : List Str} {ns : List String} {a b : Expr} {ma mb : M D} (T : DefT X.K X.w c nm ks ns) (ha : PE X a (tE ⟨X.K, c⟩ EX ma)) (hb : PE X b (tE ⟨X.K, c⟩ EX mb)) (hs : PlainIx b := by exact fun _ _ => rfl) : PE X (.Subscript a b pos) (tE ⟨X.K, c⟩ EX (m2 (dGetK nm ks ns) ma mb)) :=
  PE.imp (pe_ix ix_kdict ha hb hs) fun σ H Q h =>
    (tM.bind2 (rel := VR ⟨X.K, c⟩) (rel2 := VR ⟨X.K, c⟩) (m := ma) (m2 := mb) (f := dGetK nm ks ns) (fun e r => VR.mono e r) h).weak fun v H1 q => q.weak fun u H2 ⟨W, ρ, A, x, y, hR, rx, ry, hP⟩ => os_getK T hR rx ry hP
/-- the defs that the name may hold -/
structure HeldG (X : Cx) (c : String → Addr) (k n : Nat) (nm : String) (m : List D → List O → R D) : Prop where
  ex : ∃ (fd : FuncData) (ps : List Str), FnG X.prog X.w X.K X.mg X.base k (c nm) fd ps (spG ⟨X.K, c⟩ n m) ∧ PySem.W.keepIn X.K (.ref (c nm)) = true ∧ Binds X.K fd ps []
theorem heldG_of {k n : Nat} {nm : String} {m : List D → List O → R D} {f : Addr} {fd : FuncData} {ps : List Str} (e : f = c nm) (F : FnG X.prog X.w X.K X.mg X.base k f fd ps (spG ⟨X.K, c⟩ n m)) (kp : PySem.W.keepIn X.K (.ref f) = true) (b : Binds X.K fd ps []) : HeldG X c k n nm m := by
  subst e
  exact ⟨fd, ps, F, kp, b⟩
theorem se_callL {k i n : Nat} {e : Expr} {es : List Expr} {mr : M (List D)} {tab : List (String × (List D → List O → R D))} (F : ∀ q ∈ tab, HeldG X c k n q.1 q.2) (hr : RoomG k X.A) (hN : X.N[i]? = some x) (hv : Vis X.env.scope x) (hn : es.length + 1 = n) (tk : Takes X EX)
    (ha : PA X (e :: es) (tA ⟨X.K, c⟩ EX mr)) (hlen : ∀ σ A xs A', mr σ A = .ok xs A' → xs.length = es.length + 1) (hdb : (x == ("__debug__" : Str)) = false := by decide) (hcd : (x == ("__classdict__" : Str)) = false := by decide)
    (he : starEach (e :: es) X.env = (false, eval e X.env) :: starEach es X.env := by rfl) (hpl : (backTo pos (starEach es X.env)).any (·.1) = false := by rfl) :
    PE X (.Call (.Name x p) (e :: es) [] pos) (tE ⟨X.K, c⟩ EX (mCallL i tab mr)) := by
  refine ⟨fun pins s σ H Q I h => ?_⟩
  obtain ⟨W, ρ, A, σd, hR, hE, hP⟩ := h
  unfold mCallL at hP
  split at hP
  · rename_i nm ei
    split at hP
    · rename_i m em
      have hmem : (nm, m) ∈ tab := by
        have : ∀ (l : List (String × (List D → List O → R D))), l.lookup nm = some m → (nm, m) ∈ l := by
          intro l
          induction l with
          | nil => intro z; cases z
          | cons q l ih =>
            intro z
            rw [List.lookup_cons] at z
            split at z
            · rename_i q1
              have := eq_of_beq q1
              obtain ⟨q2, q3⟩ := q
              cases z
              subst this
              exact List.mem_cons_self
            · exact List.mem_cons_of_mem _ (ih z)
        exact this tab em
      obtain ⟨fd, ps, G, hk, hb⟩ := (F _ hmem).ex
      obtain ⟨v, hv1, hv2⟩ := hE.at_ i _ ei
      obtain rfl : v = V.ref (c nm) := by cases hv2; rfl
      refine wpAny_Call_Name_kw (thn ((pe_var (pos := p) hN hv hdb hcd).run pins s σ H (fun v H1 => v = .ref (c nm) ∧ H1 = H) I ⟨.ref (c nm), hv1, rfl, rfl⟩) fun u s1 ⟨v, H1, I1, r1, q1⟩ => ?_)
      obtain ⟨rfl, rfl⟩ := q1
      cases r1
      have h2 : tA ⟨X.K, c⟩ EX mr σ H1 (fun vs H' => vs.length = es.length + 1 ∧ ∃ W' ρ' A' xs, Rl ⟨X.K, c⟩ W' ρ' A' H' ∧ VRs ⟨X.K, c⟩ W' ρ' xs vs ∧ Post ⟨X.K, c⟩ (VR ⟨X.K, c⟩) EX W' ρ' H' σ (m xs A') Q) :=
        ⟨W, ρ, A, σd, hR, hE, (Post.bind (rel := VRs ⟨X.K, c⟩) hP).weak fun v H' ⟨W', ρ', A', xs, _, R', r', eq, P'⟩ => ⟨by rw [← r'.length]; exact hlen _ _ _ _ eq, W', ρ', A', xs, R', r', P'⟩⟩
      refine PySem.W.callWith_K (h₀ := X.base) I1.ok.mod.kin hk (thn (ha.run pos pins s1 σ H1 _ I1 h2) fun us s2 ⟨vs, H2, I2, r, q⟩ => ⟨I2.kIn, ?_⟩) he hpl
      obtain ⟨lv, W', ρ', A', xs, R', r', P'⟩ := q
      have G : FnG X.prog X.w X.K X.mg X.base k (c nm) fd ps (spG ⟨X.K, c⟩ n m) := G
      refine run_fnG (E := fun σ c d H => EX c d σ H) G hr hb .nil (passesG tk σ) I2 r ?_
      refine ⟨?_, W', ρ', A', xs, R', by rw [List.append_nil]; exact r', ?_⟩
      · rw [List.append_nil, lv]; exact hn
      · have P2 := P'
        cases em2 : m xs A' with
        | ok d A2 => rw [em2] at P2; exact P2
        | ex c' fs A2 => rw [em2] at P2; exact P2
        | no => rw [em2] at P2; exact P2
    · exact hP.elim
  · exact hP.elim
/-- {"a": "b", ..}, all of it written texts -/
def mDispS (kvs : List (Str × Str)) : M D := fun _ A => .ok (.dk (kvs.map fun p => .inr p.1) (kvs.map fun p => .str p.2)) A
def dispT (kvs : List (Str × Str)) : List (TE × TE) := kvs.map fun p => (tC (.str p.1), tC (.str p.2))
theorem pairs_c {kvs : List (Str × Str)} {σ : L2.St} {H : Hp} {Q : List (V × V) → Hp → Prop} (h : Q (kvs.map fun p => (V.str p.1, V.str p.2)) H) : tPairs (dispT kvs) σ H Q := by
  induction kvs generalizing Q with
  | nil => exact h
  | cons p kvs ih => exact ih (Q := fun ps H3 => Q ((V.str p.1, V.str p.2) :: ps) H3) h
theorem vrs_vals2 {g : G} {W : Hp} {ρ : List Addr} : ∀ l : List (Str × Str), VRs g W ρ (l.map fun p => D.str p.2) (l.map fun p => V.str p.2)
  | [] => .nil
  | q :: l => .cons (.str _) (vrs_vals2 l)
theorem upd_two {H : Hp} {p : Addr} {o o' : HO} : upd (upd H p o) p o' = upd H p o' := by
  funext a
  unfold upd
  split <;> rfl
theorem se_dispS {keys : List (Option Expr)} {values : List Expr} (kvs : List (Str × Str)) (h : PPs X pos keys values (dispT kvs)) (hall : keys.all (·.isSome) = true) (hl : keys.length = values.length) (h0 : keys ≠ []) (h15 : keys.length ≤ 15) (hn : (kvs.map (·.1)).Nodup) (h15' : kvs.length ≤ 15) :
    PE X (.Dict keys values pos) (tE ⟨X.K, c⟩ EX (mDispS kvs)) :=
  PE.imp (pe_disp h hall hl h0 h15) fun σ H Q hq => by
    obtain ⟨W, ρ, A, σd, hR, hE, hP⟩ := hq
    intro p hp
    refine pairs_c ?_
    have hk : ((kvs.map fun p => (Sum.inr p.1 : Key)) : List Key).Nodup := by
      have : ∀ (l : List (Str × Str)), (l.map (·.1)).Nodup → ((l.map fun p => (Sum.inr p.1 : Key)) : List Key).Nodup := by
        intro l
        induction l with
        | nil => intro _; exact List.nodup_nil
        | cons q l ih =>
          intro hq
          obtain ⟨h1, h2⟩ := List.nodup_cons.mp hq
          refine List.nodup_cons.mpr ⟨fun z => h1 ?_, ih h2⟩
          obtain ⟨r, hr, e⟩ := List.mem_map.mp z
          have e2 : r.1 = q.1 := Sum.inr.inj e
          exact List.mem_map.mpr ⟨r, hr, e2⟩
      exact this kvs hn
    refine ⟨by rw [upd_same], kvs.map fun p => (.inr p.1, .str p.2), by rw [List.map_map]; rfl, by rw [List.length_map]; exact h15', ?_⟩
    rw [upd_two, merge_app (by rw [List.nil_append, List.map_map]; exact hk), List.nil_append]
    have e1 : (kvs.map fun p => ((Sum.inr p.1 : Key), V.str p.2)) = (kvs.map fun p => (Sum.inr p.1 : Key)).zip (kvs.map fun p => V.str p.2) := by
      clear hn hk h15' h hP
      induction kvs with
      | nil => rfl
      | cons q l ih => rw [List.map_cons, ih]; rfl
    rw [e1]
    obtain ⟨e3, R2⟩ := hR.newW (ho := .dK ((kvs.map fun p => (Sum.inr p.1 : Key)).zip (kvs.map fun p => V.str p.2))) hp
    have rs := vrs_vals2 (g := ⟨X.K, c⟩) (W := upd W p (.dK ((kvs.map fun p => (Sum.inr p.1 : Key)).zip (kvs.map fun p => V.str p.2)))) (ρ := ρ) kvs
    exact hP _ _ _ _ e3 R2 (.dk upd_same (by simp) hk rs)
/-- max(xs), some -/
def fMaxL (xs : List D) (A : List O) : R D := match xs with
  | [x] => match (lstOf x A).bind intsOf with
    | some (i :: is) => .ok (.int (is.foldl max i)) A
    | _ => .no
  | _ => .no
@[simp] theorem fMaxL_l {i : Int} {is : List Int} {A : List O} : fMaxL [.lst (D.int i :: is.map D.int)] A = .ok (.int (is.foldl max i)) A := by
  have e : intsOf (D.int i :: is.map D.int) = some (i :: is) := by simp [intsOf]
  simp [fMaxL, e]
end
/-- max of three numbers -/
def fMax3 (xs : List D) (A : List O) : R D := match xs with
  | [.int i, .int j, .int k] => .ok (.int (max (max i j) k)) A
  | _ => .no
theorem nu2 {i j : Int} : nuMax2 (.int i) (.int j) = some (.int (max i j)) := by
  have e : nuMax2 (.int i) (.int j) = some (if decide (i < j) = true then .int j else .int i) := rfl
  rw [e]
  by_cases h : i < j
  · rw [if_pos (by simpa using h), Int.max_eq_right (by omega)]
  · rw [if_neg (by simpa using h), Int.max_eq_left (by omega)]
theorem cs_max3 {g : G} : CallS g (rNuC3 nuMax3) fMax3 := by
  intro EX W ρ A H σ xs vs Q hR r h
  unfold fMax3 at h
  split at h
  · rename_i i j k
    cases r with
    | cons r1 r => cases r with
      | cons r2 r => cases r with
        | cons r3 r =>
          cases r
          cases r1
          cases r2
          cases r3
          refine ⟨_, _, _, .int (max (max i j) k), rfl, ?_, Post.val hR (.int _) h⟩
          unfold nuMax3
          rw [nu2, Option.bind_some, nu2]
  · exact h.elim
@[simp] theorem fMax3_i {i j k : Int} {A : List O} : fMax3 [.int i, .int j, .int k] A = .ok (.int (max (max i j) k)) A := rfl
end Vi
end
section
set_option Elab.async false
set_option linter.all false
set_option maxRecDepth 100000
set_option maxHeartbeats 400000
/-! in, of a tuple of data of any depth -/
namespace Vi
open PySem PySem.Spec PyProof.Rows L2
section
variable {X : Cx} {g : G}
def rInU (K : PySem.W.Frag) (neg : Bool) : R2 := fun x y H Q => ∃ d ds, Dp K H x d ∧ Dp K H y (.tuple ds) ∧ SeqAt.shaped d = true ∧ SeqAt.shaped (.tuple ds) = true ∧ Q (.bl (if neg then !(ds.any fun z => PyData.eqv z d) else ds.any fun z => PyData.eqv z d)) H
theorem op_inU (hu : X.A.units + 65 < cLine) : OpR X (compareOp .In) (rInU X.K false) := by
  intro pins s σ H x y v u Q I rx ry h
  obtain ⟨d, ds, hd, he, sd, se, q⟩ := h
  obtain ⟨as, r1⟩ := Dp.reads I d x v hd rx
  obtain ⟨bs, r2⟩ := Dp.reads I (.tuple ds) y u he ry
  exact SeqAt.in_tuple_reads r2 r1 (SeqAt.canLay_of_shaped se) (SeqAt.canLay_of_shaped sd) (room_in_shaped sd hu) ⟨.bl _, H, I, rfl, q⟩
def dInU (neg : Bool) (x y : D) (A : List O) : R D := match py A 64 x, py A 64 y with
  | some d, some (.tuple ds) => if SeqAt.shaped d && SeqAt.shaped (.tuple ds) then .ok (.bl (if neg then !(ds.any fun z => PyData.eqv z d) else ds.any fun z => PyData.eqv z d)) A else .no
  | _, _ => .no
theorem os_inU {neg : Bool} : OpS g (rInU g.K neg) (dInU neg) := by
  intro EX W ρ A H σ x y v u Q hR rx ry h
  unfold dInU at h
  split at h
  · rename_i a b e1 e2
    split at h
    · rename_i hs
      obtain ⟨s1, s2⟩ := Bool.and_eq_true_iff.mp hs
      exact ⟨a, b, py_ok hR rx e1, py_ok hR ry e2, s1, s2, Post.val hR (.bl _) h⟩
    · exact h.elim
  · exact h.elim
end
end Vi
end
section
set_option Elab.async false
set_option linter.all false
set_option maxRecDepth 100000
set_option maxHeartbeats 4000000
/-! xs.extend(t), t a tuple -/
namespace ViX
open PySem PySem.Spec PySem.AutoSeq1
set_option maxRecDepth 8000 in
theorem list_extend_tup (l : Addr) (items : Array Value) (n : Nat) (b : Addr) (items2 : Array Value) (n2 : Nat) (dd : Option Addr) (sl : Array (Option Value)) (hs0 : ¬(!items.isEmpty && Builtin.List.listTooLong (items.size + items2.size)) = true) (hs1 : items.size ≤ sizeLine) (hs2 : items.size + items2.size ≤ sizeLine + 1) :
    Meets (Builtin.«list.extend» ⟨[.ref l, .ref b], []⟩) (fun _ R s => s.heap.get? l = some { cls := .type "list", dict := none, data := .seq items n, slots := #[] } ∧ s.heap.get? b = some { cls := .type "tuple", dict := dd, data := .seq items2 n2, slots := sl } ∧ R (.ok (.ret Value.none)) { s with heap := s.heap.update l (Obj.mapSeq fun x => x ++ items2), toks := s.toks }) :=
  .of_wp fun prog w A R s h => by
    obtain ⟨hp, g, d, tk, os⟩ := s; obtain ⟨hl, hb, h⟩ := h; have f1 := idx_int; have f2 := sub_tuple_tuple; have f3 := sub_list_list; have f4 := sub_tuple_list; have f5 := sub_list_tuple;
    have hz' : (items ++ items2).size ≤ sizeLine + 1 := by rw [Array.size_append]; exact hs2
    wp_walk using (wpAny_updateSeq hl rfl (hz := hs1) (_hz' := hz')), wpAny_loadPart' hl, wpAny_loadPart' hb; exact ⟨_, rfl, h⟩
end ViX
namespace Vi
open PySem PySem.Spec PyProof.Rows L2
section
variable {X : Cx} {g : G}
def rExtendT (K : PySem.W.Frag) : V → List V → Hp → VK → Prop := fun x vs H Q => ∃ l b xs zs, x = .ref l ∧ vs = [.ref b] ∧ H l = some (.lst xs) ∧ SqT K H b zs ∧ xs.length + zs.length ≤ sizeLine ∧ Q .non (upd H l (.lst (xs ++ zs)))
theorem mt_extendT : MtM X "list.extend" (rExtendT X.K) := by
  intro pins s σ H x vs v us Q I rx rv h
  obtain ⟨l, b, xs, zs, rfl, rfl, hH, hB, hz, q⟩ := h
  cases rx
  obtain ⟨u, rfl, ru⟩ := rv.one
  cases ru
  obtain ⟨z, its, n, r, hl, e⟩ := I.lstM hH
  obtain ⟨its2, r2, ⟨⟨cls, dd, dt, sl⟩, e2, hc, n2, hdt⟩, hl2⟩ := I.tuple hB
  simp only at hc hdt
  subst hc hdt
  have hlen := r2.length
  have hsz : its.toArray.size + its2.toArray.size ≤ sizeLine := by rw [List.size_toArray, List.size_toArray]; omega
  have hlong : ¬ (!its.toArray.isEmpty && Builtin.List.listTooLong (its.toArray.size + its2.toArray.size)) = true := by
    rw [notLongL hsz, Bool.and_false]
    exact Bool.false_ne_true
  refine call_meets F.slot_list_extend ⟨_, e, rfl⟩ F.entry_list_extend (F.args_list_extend_2 _ _)
    (ViX.list_extend_tup l its.toArray n b its2.toArray n2 dd sl hlong (by rw [List.size_toArray]; omega) (by omega)) ⟨e, e2, ?_⟩
  refine ⟨.non, _, I.lset (its' := its ++ its2) hH e (by simp) (r.append r2) ?_, rfl, q⟩
  rw [List.length_append]
  omega
def rExtendX (K : PySem.W.Frag) : V → List V → Hp → VK → Prop := fun x vs H Q => rExtend x vs H Q ∨ rExtendT K x vs H Q
theorem mt_extendX : MtM X "list.extend" (rExtendX X.K) := by
  intro pins s σ H x vs v us Q I rx rv h
  rcases h with h | h
  · exact mt_extend pins s σ H x vs v us Q I rx rv h
  · exact mt_extendT pins s σ H x vs v us Q I rx rv h
/-- extend by a list or a tuple -/
def fExtendX (x : D) (xs : List D) (A : List O) : R D := match xs with
  | [.tup es] => (match ourL x A with
    | some (n, ds) => if ds.length + es.length ≤ sizeLine then .ok .non (A.set n (.lst (ds ++ es))) else .no
    | none => .no)
  | xs => fExtend x xs A
theorem ms_extendX : MethS g (rExtendX g.K) fExtendX := by
  intro EX W ρ A H σ x v xs vs Q hR rx rs h
  unfold fExtendX at h
  split at h
  · rename_i es
    split at h
    · rename_i n ds e
      obtain ⟨a, us, rfl, hq, r2, up⟩ := ourL_ok hR rx e
      obtain ⟨w, rfl, rw'⟩ := rs.one_
      cases rw' with
      | @tup _ b ws hw r4 =>
        split at h
        · rename_i hz
          obtain ⟨e3, R3⟩ := up _ _ (r2.append r4)
          exact .inr ⟨a, b, us, ws, rfl, rfl, hq, sqT_up hR hw, by rw [← r2.length, ← r4.length]; exact hz, h _ _ _ _ e3 R3 .non⟩
        · exact h.elim
    · exact h.elim
  · exact .inl (ms_extend hR rx rs h)
@[simp] theorem fExtendX_l {x : D} {es : List D} {A : List O} : fExtendX x [.lst es] A = fExtend x [.lst es] A := rfl
theorem fExtendX_t {l : Nat} {A : List O} {ds es : List D} (h : A[l]? = some (.lst ds)) (hl : ds.length + es.length ≤ 16777216) : fExtendX (.ref l) [.tup es] A = .ok .non (A.set l (.lst (ds ++ es))) := by
  have e : ourL (.ref l) A = some (l, ds) := by simp [ourL, h]
  show (match ourL (.ref l) A with
    | some (n, ds) => if ds.length + es.length ≤ sizeLine then R.ok D.non (A.set n (.lst (ds ++ es))) else R.no
    | none => R.no) = _
  rw [e]
  have : ds.length + es.length ≤ sizeLine := by rw [sizeLine_eq]; exact hl
  exact if_pos this
end
end Vi
end
section
set_option Elab.async false
set_option linter.all false
set_option maxRecDepth 100000
set_option maxHeartbeats 4000000
namespace Mb
open PySem PySem.Spec L2 Vi
noncomputable def b_other_word : SM :=
  (sRet (m2 dGetT (mDispS [("and", "or"), ("or", "and"), ("yes", "no"), ("no", "yes")]) (mVar 0)))
noncomputable def m_other_word : List D → List O → R D := runB 1 b_other_word
noncomputable def b_pushed_by (r_pushed_by : List D → List O → R D) : SM :=
  (sSeq (sSet 2 (m2 dIx (mVar 0) (mC (.int 0))))
  (sSeq (sIf (mBl (m2 dEq (mVar 2) (mC (.str "wish"))))
  (sRet (mIte (mTru (mVar 1)) (mA fTup (mArgs (mC (.str "not")) (mArgs (mVar 0) mArgs0))) (mVar 0)))
  sPass)
  (sSeq (sIf (mBl (m2 dEq (mVar 2) (mC (.str "not"))))
  (sRet (mCall r_pushed_by [] (mArgs (m2 dIx (mVar 0) (mC (.int 1))) (mArgs (m1 dNot (mVar 1)) mArgs0))))
  sPass)
  (sSeq (sIf (mBl (m2 dEq (mVar 2) (mC (.str "cases"))))
  (sSeq (sSet 3 (mLc true (mSrc (m2 dIx (mVar 0) (mC (.int 1)))) (tgT 2 (tgsCons (tgN 4) (tgsCons (tgN 5) tgsNil))) mYes (mA fTup (mArgs (mCall r_pushed_by [] (mArgs (mVar 4) (mArgs (mC (.bl false)) mArgs0))) (mArgs (mCall r_pushed_by [] (mArgs (mVar 5) (mArgs (mVar 1) mArgs0))) mArgs0))) [4, 5]))
  (sRet (mA fTup (mArgs (mC (.str "cases")) (mArgs (mA fTupOf (mArgs (mVar 3) mArgs0)) (mArgs (mCall r_pushed_by [] (mArgs (m2 dIx (mVar 0) (mC (.int 2))) (mArgs (mVar 1) mArgs0))) mArgs0))))))
  sPass)
  (sSeq (sIf (mTru (mVar 1))
  (sSet 2 (mCall m_other_word [] (mArgs (mVar 2) mArgs0)))
  sPass)
  (sSeq (sIf (mBl (m2 (dIn false) (mVar 2) (mA fTup (mArgs (mC (.str "yes")) (mArgs (mC (.str "no")) mArgs0)))))
  (sRet (mA fTup (mArgs (mVar 2) mArgs0)))
  sPass)
  (sRet (mA fTup (mArgs (mVar 2) (mArgs (mA fTupOf (mArgs (mLc true (mSrc (m2 dIx (mVar 0) (mC (.int 1)))) (tgN 6) mYes (mCall r_pushed_by [] (mArgs (mVar 6) (mArgs (mVar 1) mArgs0))) [6]) mArgs0)) mArgs0))))))))))
noncomputable def m_pushed_by : Nat → List D → List O → R D
  | 0 => fun _ _ => .no
  | n + 1 => runB 7 (b_pushed_by (m_pushed_by n))
noncomputable def b_pushed : SM :=
  (sRet (mCall (m_pushed_by 16) [] (mArgs (mVar 0) (mArgs (mC (.bl false)) mArgs0))))
noncomputable def m_pushed : List D → List O → R D := runB 1 b_pushed
noncomputable def b_opened_1 (r_opened : List D → List O → R D) : SM :=
  (sSeq (sSet 4 (m2 dIx (mVar 1) (mVar 3)))
  (sSet 2 (mA fTup (mArgs (mC (.str "or")) (mArgs (mA fTup (mArgs (mA fTup (mArgs (mC (.str "and")) (mArgs (mA fTup (mArgs (mVar 4) (mArgs (m2 dIx (mVar 1) (m2 (dAdd true) (mVar 3) (mC (.int 1)))) mArgs0))) mArgs0))) (mArgs (mA fTup (mArgs (mC (.str "and")) (mArgs (mA fTup (mArgs (mA fTup (mArgs (mC (.str "not")) (mArgs (mVar 4) mArgs0))) (mArgs (mVar 2) mArgs0))) mArgs0))) mArgs0))) mArgs0)))))
noncomputable def b_opened (r_opened : List D → List O → R D) : SM :=
  (sSeq (sSet 1 (mLc true (mSrc (mCall m_inner_parts [] (mArgs (mVar 0) mArgs0))) (tgN 5) mYes (mCall r_opened [] (mArgs (mVar 5) mArgs0)) [5]))
  (sSeq (sIf (mBl (m2 dNe (m2 dIx (mVar 0) (mC (.int 0))) (mC (.str "cases"))))
  (sRet (mCall m_rebuilt [] (mArgs (mVar 0) (mArgs (mVar 1) mArgs0))))
  sPass)
  (sSeq (sSet 2 (m2 dIx (mVar 1) (m1 dNeg (mC (.int 1)))))
  (sSeq (sFor (mSrcA fRange3 (mArgs (m2 dSub (mA fLen (mArgs (mVar 1) mArgs0)) (mC (.int 3))) (mArgs (m1 dNeg (mC (.int 1))) (mArgs (m1 dNeg (mC (.int 2))) mArgs0)))) (tgN 3)
  (b_opened_1 r_opened))
  (sRet (mVar 2))))))
noncomputable def m_opened : Nat → List D → List O → R D
  | 0 => fun _ _ => .no
  | n + 1 => runB 6 (b_opened (m_opened n))
noncomputable def b_joined_1 (r_joined : List D → List O → R D) : SM :=
  (sExpr (mMeth isL fExtendX (mVar 2) (mArgs (mIte (mBl (m2 dEq (m2 dIx (mVar 3) (mC (.int 0))) (m2 dIx (mVar 0) (mC (.int 0))))) (m2 dIx (mVar 3) (mC (.int 1))) (mA (newL true) (mArgs (mVar 3) mArgs0))) mArgs0)))
noncomputable def b_joined (r_joined : List D → List O → R D) : SM :=
  (sSeq (sSet 1 (mLc true (mSrc (mCall m_inner_parts [] (mArgs (mVar 0) mArgs0))) (tgN 3) mYes (mCall r_joined [] (mArgs (mVar 3) mArgs0)) [3]))
  (sSeq (sIf (mBl (m2 (dIn true) (m2 dIx (mVar 0) (mC (.int 0))) (mA fTup (mArgs (mC (.str "and")) (mArgs (mC (.str "or")) mArgs0)))))
  (sRet (mCall m_rebuilt [] (mArgs (mVar 0) (mArgs (mVar 1) mArgs0))))
  sPass)
  (sSeq (sSet 2 (mA (newL false) mArgs0))
  (sSeq (sFor (mSrc (mVar 1)) (tgN 3)
  (b_joined_1 r_joined))
  (sSeq (sIf (mBl (m2 dLe (mA fLen (mArgs (mVar 2) mArgs0)) (mC (.int 6))))
  (sSet 1 (mVar 2))
  sPass)
  (sSeq (sIf (mBl (m2 dEq (mA fLen (mArgs (mVar 1) mArgs0)) (mC (.int 1))))
  (sRet (m2 dIx (mVar 1) (mC (.int 0))))
  sPass)
  (sRet (mA fTup (mArgs (m2 dIx (mVar 0) (mC (.int 0))) (mArgs (mA fTupOf (mArgs (mVar 1) mArgs0)) mArgs0))))))))))
noncomputable def m_joined : Nat → List D → List O → R D
  | 0 => fun _ _ => .no
  | n + 1 => runB 4 (b_joined (m_joined n))
noncomputable def b_lean_cases_1 : SM :=
  (sSeq (sIf (mBl (m2 dEq (m2 dIx (mVar 0) (mVar 3)) (mC (.tup [(D.str "yes")]))))
  (sSeq (sSet 2 (m2 dIx (mVar 0) (m2 (dAdd true) (mVar 3) (mC (.int 1)))))
  sBreak)
  sPass)
  (sIf (mBl (m2 dNe (m2 dIx (mVar 0) (mVar 3)) (mC (.tup [(D.str "no")]))))
  (sExpr (mMeth isL fAppend (mVar 1) (mArgs (mA fTup (mArgs (m2 dIx (mVar 0) (mVar 3)) (mArgs (m2 dIx (mVar 0) (m2 (dAdd true) (mVar 3) (mC (.int 1)))) mArgs0))) mArgs0)))
  sPass))
noncomputable def b_lean_cases : SM :=
  (sSeq (sSet 1 (mA (newL false) mArgs0))
  (sSeq (sSet 2 (m2 dIx (mVar 0) (m1 dNeg (mC (.int 1)))))
  (sSeq (sFor (mSrcA fRange3 (mArgs (mC (.int 0)) (mArgs (m2 dSub (mA fLen (mArgs (mVar 0) mArgs0)) (mC (.int 1))) (mArgs (mC (.int 2)) mArgs0)))) (tgN 3)
  b_lean_cases_1)
  (sSeq (sIf (mBl (m2 dEq (mVar 1) (mA (newL true) mArgs0)))
  (sRet (mVar 2))
  sPass)
  (sRet (mA fTup (mArgs (mC (.str "cases")) (mArgs (mA fTupOf (mArgs (mVar 1) mArgs0)) (mArgs (mVar 2) mArgs0)))))))))
noncomputable def m_lean_cases : List D → List O → R D := runB 4 b_lean_cases
noncomputable def b_lean (r_lean : List D → List O → R D) : SM :=
  (sSeq (sSet 1 (mLc true (mSrc (mCall m_inner_parts [] (mArgs (mVar 0) mArgs0))) (tgN 6) mYes (mCall r_lean [] (mArgs (mVar 6) mArgs0)) [6]))
  (sSeq (sSet 2 (m2 dIx (mVar 0) (mC (.int 0))))
  (sSeq (sIf (mBl (m2 dEq (mVar 2) (mC (.str "cases"))))
  (sRet (mCall m_lean_cases [] (mArgs (mVar 1) mArgs0)))
  sPass)
  (sSeq (sIf (mAndT (mBl (m2 dEq (mVar 2) (mC (.str "not")))) (mBl (m2 (orD (dIn false) (dInU false)) (m2 dIx (mVar 1) (mC (.int 0))) (mA fTup (mArgs (mC (.tup [(D.str "yes")])) (mArgs (mC (.tup [(D.str "no")])) mArgs0))))))
  (sRet (mA fTup (mArgs (mCall m_other_word [] (mArgs (m2 dIx (m2 dIx (mVar 1) (mC (.int 0))) (mC (.int 0))) mArgs0)) mArgs0)))
  sPass)
  (sSeq (sIf (mBl (m2 (dIn true) (mVar 2) (mA fTup (mArgs (mC (.str "and")) (mArgs (mC (.str "or")) mArgs0)))))
  (sRet (mCall m_rebuilt [] (mArgs (mVar 0) (mArgs (mVar 1) mArgs0))))
  sPass)
  (sSeq (sAsg (mIte (mBl (m2 dEq (mVar 2) (mC (.str "and")))) (mA fTup (mArgs (mC (.tup [(D.str "yes")])) (mArgs (mC (.tup [(D.str "no")])) mArgs0))) (mA fTup (mArgs (mC (.tup [(D.str "no")])) (mArgs (mC (.tup [(D.str "yes")])) mArgs0)))) (tgT 2 (tgsCons (tgN 4) (tgsCons (tgN 5) tgsNil))))
  (sSeq (sSet 3 (mLc true (mSrc (mVar 1)) (tgN 6) (mBl (m2 dNe (mVar 6) (mVar 4))) (mVar 6) [6]))
  (sSeq (sIf (mBl (m2 (orD (dIn false) (dInD false)) (mVar 5) (mVar 3)))
  (sRet (mVar 5))
  sPass)
  (sSeq (sIf (mBl (m2 dEq (mVar 3) (mA (newL true) mArgs0)))
  (sRet (mVar 4))
  sPass)
  (sRet (mA fTup (mArgs (mVar 2) (mArgs (mA fTupOf (mArgs (mVar 3) mArgs0)) mArgs0)))))))))))))
noncomputable def m_lean : Nat → List D → List O → R D
  | 0 => fun _ _ => .no
  | n + 1 => runB 7 (b_lean (m_lean n))
noncomputable def b_size_of (r_size_of : List D → List O → R D) : SM :=
  (sSeq (sSet 1 (mLc true (mSrc (mCall m_inner_parts [] (mArgs (mVar 0) mArgs0))) (tgN 2) mYes (mCall r_size_of [] (mArgs (mVar 2) mArgs0)) [2]))
  (sRet (mA fTup (mArgs (mA (fSumS 1) (mArgs (mLc true (mSrc (mVar 1)) (tgT 2 (tgsCons (tgN 3) (tgsCons (tgN 4) tgsNil))) mYes (mVar 3) [3, 4]) mArgs0)) (mArgs (m2 (dAdd true) (mC (.int 1)) (mA (fMaxD 0) (mArgs (mLc true (mSrc (mVar 1)) (tgT 2 (tgsCons (tgN 3) (tgsCons (tgN 4) tgsNil))) mYes (mVar 4) [3, 4]) mArgs0))) mArgs0)))))
noncomputable def m_size_of : Nat → List D → List O → R D
  | 0 => fun _ _ => .no
  | n + 1 => runB 5 (b_size_of (m_size_of n))
noncomputable def b_opened_size_1 (r_opened_size : List D → List O → R D) : SM :=
  (sSeq (sPar 6 7 (mArgs (m2 dIx (mVar 1) (mVar 2)) (mArgs (m2 dIx (mVar 1) (m2 (dAdd true) (mVar 2) (mC (.int 1)))) mArgs0)))
  (sSeq (sSet 3 (m2 (dAdd true) (m2 (dAdd true) (m2 (dAdd true) (mC (.int 4)) (m2 dMul (mC (.int 2)) (m2 dIx (mVar 6) (mC (.int 0))))) (m2 dIx (mVar 7) (mC (.int 0)))) (mVar 3)))
  (sSet 4 (m2 (dAdd true) (mC (.int 2)) (mA fMax3 (mArgs (m2 (dAdd true) (mC (.int 1)) (m2 dIx (mVar 6) (mC (.int 1)))) (mArgs (m2 dIx (mVar 7) (mC (.int 1))) (mArgs (mVar 4) mArgs0))))))))
noncomputable def b_opened_size (r_opened_size : List D → List O → R D) : SM :=
  (sSeq (sSet 1 (mLc true (mSrc (mCall m_inner_parts [] (mArgs (mVar 0) mArgs0))) (tgN 5) mYes (mCall r_opened_size [] (mArgs (mVar 5) mArgs0)) [5]))
  (sSeq (sIf (mBl (m2 dNe (m2 dIx (mVar 0) (mC (.int 0))) (mC (.str "cases"))))
  (sRet (mA fTup (mArgs (mA (fSumS 1) (mArgs (mLc true (mSrc (mVar 1)) (tgT 2 (tgsCons (tgN 3) (tgsCons (tgN 4) tgsNil))) mYes (mVar 3) [3, 4]) mArgs0)) (mArgs (m2 (dAdd true) (mC (.int 1)) (mA (fMaxD 0) (mArgs (mLc true (mSrc (mVar 1)) (tgT 2 (tgsCons (tgN 3) (tgsCons (tgN 4) tgsNil))) mYes (mVar 4) [3, 4]) mArgs0))) mArgs0))))
  sPass)
  (sSeq (sAsg (m2 dIx (mVar 1) (m1 dNeg (mC (.int 1)))) (tgT 2 (tgsCons (tgN 3) (tgsCons (tgN 4) tgsNil))))
  (sSeq (sFor (mSrcA fRange3 (mArgs (m2 dSub (mA fLen (mArgs (mVar 1) mArgs0)) (mC (.int 3))) (mArgs (m1 dNeg (mC (.int 1))) (mArgs (m1 dNeg (mC (.int 2))) mArgs0)))) (tgN 2)
  (b_opened_size_1 r_opened_size))
  (sRet (mA fTup (mArgs (mVar 3) (mArgs (mVar 4) mArgs0))))))))
noncomputable def m_opened_size : Nat → List D → List O → R D
  | 0 => fun _ _ => .no
  | n + 1 => runB 8 (b_opened_size (m_opened_size n))
noncomputable def b_look_at_great : SM :=
  (sIf (mOrT (mBl (m2 dGt (m2 dIx (mVar 0) (mC (.int 0))) (mC (.int 60)))) (mBl (m2 dGt (m2 dIx (mVar 0) (mC (.int 1))) (mC (.int 12)))))
  (sRaiseX "TooMany" ["size"] (mArgs (m2 dIx (mVar 0) (mC (.int 0))) mArgs0))
  sPass)
noncomputable def m_look_at_great : List D → List O → R D := runB 1 b_look_at_great
noncomputable def b_otherwise : SM :=
  (sSeq (sIf (mOrT (mNotT (mTru (mA fIsi (mArgs (mVar 1) (mArgs (mC (.ty .str)) mArgs0))))) (mBl (m2 (dInK "RULES" ["pushed", "opened", "joined", "lean"] true) (mVar 1) (mC (.cls "RULES")))))
  (sRaise "NoWord")
  sPass)
  (sSeq (sIf (mBl (m2 dEq (mVar 1) (mC (.str "opened"))))
  (sExpr (mCall m_look_at_great [] (mArgs (mCall (m_opened_size 16) [] (mArgs (mVar 0) mArgs0)) mArgs0)))
  sPass)
  (sSeq (sSet 2 (m2 (dGetK "RULES" ["pushed", "opened", "joined", "lean"] ["pushed", "opened", "joined", "lean"]) (mC (.cls "RULES")) (mVar 1)))
  (sSeq (sSet 3 (mCallL 2 [("pushed", m_pushed), ("opened", (m_opened 16)), ("joined", (m_joined 16)), ("lean", (m_lean 16))] (mArgs (mVar 0) mArgs0)))
  (sSeq (sExpr (mCall m_look_at_great [] (mArgs (mCall (m_size_of 16) [] (mArgs (mVar 3) mArgs0)) mArgs0)))
  (sRet (mVar 3)))))))
noncomputable def m_otherwise : List D → List O → R D := runB 4 b_otherwise
noncomputable def b_law_size_1 (r_law_size : List D → List O → R D) : SM :=
  (sSeq (sSet 4 (mCall r_law_size [] (mArgs (mVar 3) mArgs0)))
  (sSeq (sSet 1 (m2 (dAdd true) (mVar 1) (m2 dIx (mVar 4) (mC (.int 0)))))
  (sSet 2 (mA fMax2 (mArgs (mVar 2) (mArgs (m2 dIx (mVar 4) (mC (.int 1))) mArgs0))))))
noncomputable def b_law_size (r_law_size : List D → List O → R D) : SM :=
  (sSeq (sSet 1 (mC (.int 1)))
  (sSeq (sSet 2 (mC (.int 0)))
  (sSeq (sFor (mSrc (mCall m_law_inner [] (mArgs (mVar 0) mArgs0))) (tgN 3)
  (b_law_size_1 r_law_size))
  (sRet (mA fTup (mArgs (mVar 1) (mArgs (m2 (dAdd true) (mVar 2) (mC (.int 1))) mArgs0)))))))
noncomputable def m_law_size : Nat → List D → List O → R D
  | 0 => fun _ _ => .no
  | n + 1 => runB 5 (b_law_size (m_law_size n))
noncomputable def b_law_otherwise_told : SM :=
  (sSeq (sSet 2 (mC .non))
  (sSeq (sTry ["TooMany"] 3
  (sSet 2 (mA fTup (mArgs (mC (.str "told")) (mArgs (mCall m_otherwise [] (mArgs (mVar 0) (mArgs (mVar 1) mArgs0))) mArgs0))))
  (sSet 2 (mA fTup (mArgs (mC (.str "many")) (mArgs (m1 (dFldL ["TooMany"] "size") (mVar 3)) mArgs0)))))
  (sRet (mVar 2))))
noncomputable def m_law_otherwise_told : List D → List O → R D := runB 4 b_law_otherwise_told
noncomputable def b_law_put : SM :=
  (sSeq (sIf (mBl (m2 dEq (m2 dIx (mVar 0) (mC (.int 0))) (mC (.str "not"))))
  (sRet (mA fTup (mArgs (mC (.str "not")) (mArgs (m2 dIx (mVar 1) (mC (.int 0))) mArgs0))))
  sPass)
  (sSeq (sIf (mBl (m2 (dIn false) (m2 dIx (mVar 0) (mC (.int 0))) (mA (newL true) (mArgs (mC (.str "and")) (mArgs (mC (.str "or")) mArgs0)))))
  (sRet (mA fTup (mArgs (m2 dIx (mVar 0) (mC (.int 0))) (mArgs (mA fTupOf (mArgs (mVar 1) mArgs0)) mArgs0))))
  sPass)
  (sSeq (sIf (mBl (m2 dEq (m2 dIx (mVar 0) (mC (.int 0))) (mC (.str "cases"))))
  (sSeq (sSet 2 (mA fTupOf (mArgs (mLc true (mSrcA fRange3 (mArgs (mC (.int 0)) (mArgs (m2 dSub (mA fLen (mArgs (mVar 1) mArgs0)) (mC (.int 1))) (mArgs (mC (.int 2)) mArgs0)))) (tgN 3) mYes (mA fTup (mArgs (m2 dIx (mVar 1) (mVar 3)) (mArgs (m2 dIx (mVar 1) (m2 (dAdd true) (mVar 3) (mC (.int 1)))) mArgs0))) [3]) mArgs0)))
  (sRet (mA fTup (mArgs (mC (.str "cases")) (mArgs (mVar 2) (mArgs (m2 dIx (mVar 1) (m1 dNeg (mC (.int 1)))) mArgs0))))))
  sPass)
  (sRet (mVar 0)))))
noncomputable def m_law_put : List D → List O → R D := runB 4 b_law_put
noncomputable def b_law_strewn (r_law_strewn : List D → List O → R D) : SM :=
  (sSeq (sIf (mBl (m2 dEq (m2 dIx (mVar 1) (mC (.int 0))) (mC (.str "wish"))))
  (sSeq (sIf (mBl (m2 dGt (mCall m_law_take [] (mArgs (mVar 0) (mArgs (mVar 2) mArgs0))) (mC (.int 0))))
  (sRet (mVar 1))
  sPass)
  (sRet (m2 dIx (mA (newL true) (mArgs (mA fTup (mArgs (mC (.str "yes")) mArgs0)) (mArgs (mA fTup (mArgs (mC (.str "no")) mArgs0)) mArgs0))) (mCall m_law_take [] (mArgs (mVar 0) (mArgs (mC (.int 2)) mArgs0))))))
  sPass)
  (sRet (mCall m_law_put [] (mArgs (mVar 1) (mArgs (mLc true (mSrc (mCall m_law_inner [] (mArgs (mVar 1) mArgs0))) (tgN 3) mYes (mCall r_law_strewn [] (mArgs (mVar 0) (mArgs (mVar 3) (mArgs (mVar 2) mArgs0)))) [3]) mArgs0)))))
noncomputable def m_law_strewn : Nat → List D → List O → R D
  | 0 => fun _ _ => .no
  | n + 1 => runB 4 (b_law_strewn (m_law_strewn n))
end Mb
end
section
set_option Elab.async false
set_option linter.all false
set_option maxRecDepth 100000
set_option maxHeartbeats 4000000
namespace Mb
open PySem PySem.Spec L2 Vi
section
variable {m n s : Nat} {d e : D} {A : List O} {r : List Bool}
theorem Dec.form (h : Dec m n s d) : formOk m d = true := by
  have q := (h.okF n (Nat.le_refl _)).1
  cases n with
  | zero => exact h.elim
  | succ n =>
    rw [Mb.okF] at q
    exact (Bool.and_eq_true_iff.mp q).1
theorem ip_ok (h : Dec m n s d) (A : List O) : m_inner_parts [d] A = .ok (.lst (inner d)) A := inner_parts_ok h.dat h.form A
theorem inner_le (h : Dec m n s d) : (inner d).length ≤ 9 := inner_len h.form
theorem Dec.kid (h : Dec m (n + 1) s d) : ∃ t, (∀ e ∈ inner d, Dec m n t e) ∧ (inner d).length * t + 1 ≤ s ∧ ∀ e ∈ inner d, t ≤ s := by
  rcases h.node with ⟨i, hi, rfl⟩ | ⟨h1, t, h2, h3⟩
  · refine ⟨0, by simp, ?_, by simp⟩
    have := h.pos
    simpa using this
  · refine ⟨t, h2, h3, fun e he => ?_⟩
    have : 1 ≤ (inner d).length := List.length_pos_of_mem he
    have := Nat.mul_le_mul_right t this
    omega
/-! law_inner, law_leaves -/
theorem li_ok (h : Dec m n s d) (A : List O) : m_law_inner [d] A = .ok (.lst (inner d)) A := by
  have hnr : (inner d).all noR = true := List.all_eq_true.mpr fun e he => (inner_dat h.dat h.form e he).noR
  rcases form_cases h.form with rfl | rfl | ⟨k, _, _, rfl⟩ | ⟨e, rfl⟩ | ⟨w, es, rfl, _, hl⟩ | ⟨ps, e, rfl, _, hl⟩
  · simp [m_law_inner, b_law_inner]
  · simp [m_law_inner, b_law_inner]
  · simp [m_law_inner, b_law_inner]
  · simp [m_law_inner, b_law_inner]
  · have hl : es.length < 16777216 := by omega
    have q : fListOf true [.tup es] A = .ok (.lst es) A := if_pos hl
    cases w
    · simp [m_law_inner, b_law_inner, q]
    · simp [m_law_inner, b_law_inner, q]
  · have L : ∀ (ps : List (D × D)) (c x y : Option D) (fs : List D) (G : List O), fs.length + 2 * ps.length ≤ 1000 → ∃ x' y' G', forD (fun _ => True) (tgT 2 (tgsCons (tgN 2) (tgsCons (tgN 3) tgsNil))) b_law_inner_1 (ps.map fun p => .tup [p.1, p.2]) [c, some (.ref (A ++ G).length), x, y] ((A ++ G) ++ [O.lst fs]) = .ok (.nx [c, some (.ref (A ++ G').length), x', y']) ((A ++ G') ++ [O.lst (fs ++ ps.flatMap fun p => [p.1, p.2])]) := fun ps => by
      induction ps with
      | nil => intro c x y fs G _; exact ⟨x, y, G, by simp [forD]⟩
      | cons p ps ih =>
        intro c x y fs G hl
        simp only [List.length_cons] at hl
        obtain ⟨x', y', G', e'⟩ := ih c (some p.1) (some p.2) (fs ++ [p.1, p.2]) (G ++ [O.lst fs]) (by simp; omega)
        refine ⟨x', y', G', ?_⟩
        have hl2 : (fs ++ [p.1, p.2]).length < 16777216 := by simp; omega
        have hq : dAdd false (.ref (A ++ G).length) (.lst [p.1, p.2]) ((A ++ G) ++ [O.lst fs]) = .ok (.ref (A ++ (G ++ [O.lst fs])).length) ((A ++ (G ++ [O.lst fs])) ++ [O.lst (fs ++ [p.1, p.2])]) := by
          rw [dAdd_rl]
          have : lstOf (.ref (A ++ G).length) ((A ++ G) ++ [O.lst fs]) = some fs := by
            show (match ((A ++ G) ++ [O.lst fs])[(A ++ G).length]? with
              | some (.lst ds) => some ds
              | _ => none) = _
            rw [get_last]
          rw [this]
          show newL false _ _ = _
          unfold newL
          rw [sizeLine_eq, if_pos hl2]
          simp
        rw [List.append_assoc fs] at e'
        have step : b_law_inner_1 [c, some (.ref (A ++ G).length), some p.1, some p.2] ((A ++ G) ++ [O.lst fs]) = .ok (.nx [c, some (.ref (A ++ (G ++ [O.lst fs])).length), some p.1, some p.2]) ((A ++ (G ++ [O.lst fs])) ++ [O.lst (fs ++ [p.1, p.2])]) := by
          generalize (A ++ (G ++ [O.lst fs])) ++ [O.lst (fs ++ [p.1, p.2])] = Z at *
          generalize (A ++ (G ++ [O.lst fs])).length = z at *
          generalize (A ++ G) ++ [O.lst fs] = Y at *
          generalize (A ++ G).length = z0 at *
          simp [b_law_inner_1, hq, -dAdd_rl]
        rw [List.map_cons, forD, if_pos trivial]
        generalize (A ++ (G ++ [O.lst fs])) ++ [O.lst (fs ++ [p.1, p.2])] = Z at *
        generalize (A ++ (G ++ [O.lst fs])).length = z at *
        generalize (A ++ G) ++ [O.lst fs] = Y at *
        generalize (A ++ G).length = z0 at *
        simp [step, e']
    obtain ⟨x', y', G', e'⟩ := L ps (some (.tup [.str "cases", .tup (ps.map fun p => .tup [p.1, p.2]), e])) none none [] [] (by simp; omega)
    rw [inner_cases] at hnr ⊢
    simp only [List.append_nil, List.nil_append] at e'
    have hlf : (ps.flatMap fun p => [p.1, p.2]).length < 100 := by rw [flat_len]; omega
    generalize (ps.flatMap fun p => [p.1, p.2]) = fs at *
    have ha := app_last (A := A ++ G') (ds := fs) (x := e) (by omega)
    have hb : (A ++ G' ++ [O.lst (fs ++ [e])])[(A ++ G').length]? = some (.lst (fs ++ [e])) := by simp
    have hd : (A ++ G' ++ [O.lst fs])[(A ++ G').length]? = some (.lst fs) := get_last
    have hc : (A ++ G' ++ [O.lst (fs ++ [e])]).set (A ++ G').length .dead = A ++ (G' ++ [O.dead]) := by rw [set_last, List.append_assoc]
    have ht := trimR_app (A := A) (B := G' ++ [O.dead]) (d := .lst (fs ++ [e])) (by rw [noR_lst]; exact hnr)
    generalize A ++ (G' ++ [O.dead]) = Z1 at *
    generalize A ++ G' ++ [O.lst (fs ++ [e])] = Z2 at *
    generalize A ++ G' ++ [O.lst fs] = Z3 at *
    generalize (A ++ G').length = z at *
    simp [m_law_inner, b_law_inner, e', ha, hb, hc, hd, ht, -trimR_app]
end
end Mb
end
section
set_option Elab.async false
set_option linter.all false
set_option maxRecDepth 100000
set_option maxHeartbeats 400000
namespace Mb
open PySem PySem.Spec L2 Vi
section
variable {m n s f k : Nat} {d e : D} {A : List O} {r : List Bool}
/-! how many parts, and how deep -/
def szI : Nat → D → Int
  | 0, _ => 0
  | n + 1, d => 1 + ((inner d).map (szI n)).sum
def dpI : Nat → D → Int
  | 0, _ => 0
  | n + 1, d => 1 + maxL 0 ((inner d).map (dpI n))
theorem maxL_nn : ∀ {l : List Int}, (∀ x ∈ l, 0 ≤ x) → 0 ≤ maxL 0 l
  | [], _ => Int.le_refl _
  | x :: xs, h => h _ (foldl_max xs x).1
theorem maxL_fold : ∀ {l : List Int}, (∀ x ∈ l, 0 ≤ x) → maxL 0 l = l.foldl max 0
  | [], _ => rfl
  | x :: xs, h => by
    have := h x List.mem_cons_self
    rw [maxL, List.foldl_cons, Int.max_eq_right this]
theorem dpI_nn : ∀ {n : Nat} {d : D}, 0 ≤ dpI n d
  | 0, _ => Int.le_refl _
  | n + 1, d => by
    have : 0 ≤ maxL 0 ((inner d).map (dpI n)) := maxL_nn fun x hx => by
      obtain ⟨e, _, rfl⟩ := List.mem_map.mp hx
      exact dpI_nn
    rw [dpI]; omega
theorem sumI_le {t : Int} : ∀ {l : List Int}, (∀ x ∈ l, x ≤ t) → l.sum ≤ (l.length : Int) * t
  | [], _ => by simp
  | x :: xs, h => by
    have h1 := h x List.mem_cons_self
    have h2 := sumI_le (l := xs) (t := t) fun y hy => h y (List.mem_cons_of_mem _ hy)
    rw [List.sum_cons, List.length_cons]
    have : ((xs.length + 1 : Nat) : Int) * t = (xs.length : Int) * t + t := by
      rw [Int.natCast_add, Int.add_mul]; simp
    rw [this]; omega
theorem sumI_nn : ∀ {l : List Int}, (∀ x ∈ l, 0 ≤ x) → 0 ≤ l.sum
  | [], _ => by simp
  | x :: xs, h => by
    have h1 := h x List.mem_cons_self
    have h2 := sumI_nn (l := xs) fun y hy => h y (List.mem_cons_of_mem _ hy)
    rw [List.sum_cons]; omega
theorem szI_nn : ∀ {n : Nat} {d : D}, 0 ≤ szI n d
  | 0, _ => Int.le_refl _
  | n + 1, d => by
    have : 0 ≤ ((inner d).map (szI n)).sum := sumI_nn fun x hx => by
      obtain ⟨e, _, rfl⟩ := List.mem_map.mp hx
      exact szI_nn
    rw [szI]; omega
theorem szI_le : ∀ {n s : Nat} {d : D}, Dec m n s d → ∀ {f : Nat}, n ≤ f → szI f d ≤ s
  | n + 1, s, d, h, f, hf => by
    obtain ⟨f, rfl⟩ : ∃ g, f = g + 1 := ⟨f - 1, by omega⟩
    obtain ⟨t, h2, h3, _⟩ := h.kid
    have := sumI_le (l := (inner d).map (szI f)) (t := (t : Int)) fun x hx => by
      obtain ⟨e, he, rfl⟩ := List.mem_map.mp hx
      exact szI_le (h2 e he) (by omega)
    rw [List.length_map] at this
    have h3' : ((inner d).length : Int) * (t : Int) + 1 ≤ (s : Int) := by exact_mod_cast h3
    rw [szI]; omega
theorem size_of_s (f : Nat) : m_size_of (f + 1) = runB 5 (b_size_of (m_size_of f)) := rfl
theorem law_size_s (f : Nat) : m_law_size (f + 1) = runB 5 (b_law_size (m_law_size f)) := rfl
theorem mapI {g : D → Int} {l : List D} : (l.map fun e => D.int (g e)) = (l.map g).map D.int := by rw [List.map_map]; rfl
theorem size_ok : ∀ {n s : Nat} {d : D}, Dec m n s d → ∀ {f : Nat}, n ≤ f → ∀ A, m_size_of f [d] A = .ok (.tup [.int (szI f d), .int (dpI f d)]) A
  | n + 1, s, d, h, f, hf, A => by
    obtain ⟨f, rfl⟩ : ∃ g, f = g + 1 := ⟨f - 1, by omega⟩
    obtain ⟨t, h2, h3, _⟩ := h.kid
    have e1 := ip_ok h A
    have hl := inner_le h
    have ih : ∀ e ∈ inner d, m_size_of f [e] A = .ok (.tup [.int (szI f e), .int (dpI f e)]) A := fun e he => size_ok (h2 e he) (by omega) A
    rw [size_of_s, szI, dpI]
    generalize hg1 : szI f = g1 at *
    generalize hg2 : dpI f = g2 at *
    generalize inner d = I at *
    have L1 : lcD (fun _ => True) (tgN 2) mYes (mCall (m_size_of f) [] (mArgs (mVar 2) mArgs0)) [some d, none, none, none, none] I [] A = .ok (I.map fun e => .tup [.int (g1 e), .int (g2 e)]) A :=
      lcD_map (fun e => .tup [.int (g1 e), .int (g2 e)]) trivial (by omega) fun e he => ⟨_, tgN_e, by simp [ih e he]⟩
    have L2 : ∀ c, lcD (fun _ => True) (tgT 2 (tgsCons (tgN 3) (tgsCons (tgN 4) tgsNil))) mYes (mVar 3) [some d, some c, none, none, none] (I.map fun e => .tup [.int (g1 e), .int (g2 e)]) [] A = .ok ((I.map g1).map D.int) A := fun c => by
      rw [lcD_m (fun e => D.int (g1 e)) trivial (by omega) fun e he => ?_, mapI]
      exact ⟨[some d, some c, none, some (.int (g1 e)), some (.int (g2 e))], by simp, by simp⟩
    have L3 : ∀ c, lcD (fun _ => True) (tgT 2 (tgsCons (tgN 3) (tgsCons (tgN 4) tgsNil))) mYes (mVar 4) [some d, some c, none, none, none] (I.map fun e => .tup [.int (g1 e), .int (g2 e)]) [] A = .ok ((I.map g2).map D.int) A := fun c => by
      rw [lcD_m (fun e => D.int (g2 e)) trivial (by omega) fun e he => ?_, mapI]
      exact ⟨[some d, some c, none, some (.int (g1 e)), some (.int (g2 e))], by simp, by simp⟩
    have l1 : (I.map fun e => D.tup [.int (g1 e), .int (g2 e)]).length < 16777216 := by rw [List.length_map]; omega
    have l2 : (I.map g1).length < 16777216 := by rw [List.length_map]; omega
    have l3 : (I.map g2).length < 16777216 := by rw [List.length_map]; omega
    generalize (I.map fun e => D.tup [.int (g1 e), .int (g2 e)]) = T at *
    generalize hx1 : I.map g1 = X1 at *
    generalize hx2 : I.map g2 = X2 at *
    simp [b_size_of, e1, L1, L2, L3, wipeD, l1, l2, l3]
theorem foldl_maxI {d : D} {g : D → Int} : ∀ (l : List D) (b : Int), (l.map g).foldl max b = l.foldl (fun a e => if g e > a then g e else a) b
  | [], _ => rfl
  | e :: l, b => by
    have : max b (g e) = if g e > b then g e else b := by omega
    rw [List.map_cons, List.foldl_cons, List.foldl_cons, this, foldl_maxI (d := d) l]
theorem law_size_ok : ∀ {n s : Nat} {d : D}, Dec m n s d → ∀ {f : Nat}, n ≤ f → ∀ A, m_law_size f [d] A = .ok (.tup [.int (szI f d), .int (dpI f d)]) A
  | n + 1, s, d, h, f, hf, A => by
    obtain ⟨f, rfl⟩ : ∃ g, f = g + 1 := ⟨f - 1, by omega⟩
    obtain ⟨t, h2, h3, _⟩ := h.kid
    have e1 := li_ok h A
    have ih : ∀ e ∈ inner d, m_law_size f [e] A = .ok (.tup [.int (szI f e), .int (dpI f e)]) A := fun e he => law_size_ok (h2 e he) (by omega) A
    rw [law_size_s, szI, dpI, maxL_fold fun x hx => by
      obtain ⟨e, _, rfl⟩ := List.mem_map.mp hx
      exact dpI_nn, foldl_maxI (d := d)]
    generalize hg1 : szI f = g1 at *
    generalize hg2 : dpI f = g2 at *
    generalize inner d = I at *
    have L : ∀ (es : List D) (a b : Int) (x y : Option D), (∀ e ∈ es, m_law_size f [e] A = .ok (.tup [.int (g1 e), .int (g2 e)]) A) → ∃ x' y', forD (fun _ => True) (tgN 3) (b_law_size_1 (m_law_size f)) es [some d, some (.int a), some (.int b), x, y] A = .ok (.nx [some d, some (.int (a + (es.map g1).sum)), some (.int (es.foldl (fun a e => if g2 e > a then g2 e else a) b)), x', y']) A := fun es => by
      induction es with
      | nil => intro a b x y _; exact ⟨x, y, by simp [forD]⟩
      | cons e es ih2 =>
        intro a b x y he
        obtain ⟨x', y', e'⟩ := ih2 (a + g1 e) (if g2 e > b then g2 e else b) (some e) (some (.tup [.int (g1 e), .int (g2 e)])) fun z hz => he z (List.mem_cons_of_mem _ hz)
        refine ⟨x', y', ?_⟩
        have e2 := he e List.mem_cons_self
        have step : b_law_size_1 (m_law_size f) [some d, some (.int a), some (.int b), some e, y] A = .ok (.nx [some d, some (.int (a + g1 e)), some (.int (if g2 e > b then g2 e else b)), some e, some (.tup [.int (g1 e), .int (g2 e)])]) A := by
          simp [b_law_size_1, e2]
        rw [forD, if_pos trivial, List.map_cons, List.sum_cons, List.foldl_cons, ← Int.add_assoc]
        simp only [tgN_e, R.bind_ok, Vi.Env] at *
        simp [step, e']
    obtain ⟨x', y', e'⟩ := L I 1 0 none none ih
    generalize (1 : Int) + (I.map g1).sum = z at *
    generalize I.foldl (fun a e => if g2 e > a then g2 e else a) 0 = q at *
    simp [b_law_size, e1, e', Int.add_comm]
/-! great ones, told words -/
theorem great_ok {z p : Int} : m_look_at_great [.tup [.int z, .int p]] A = if z ≤ 60 ∧ p ≤ 12 then .ok .non A else .ex "TooMany" [("size", .int z)] A := by
  by_cases h1 : z > 60
  · have : ¬ (z ≤ 60 ∧ p ≤ 12) := by omega
    rw [if_neg this]
    have key : b_look_at_great [some (.tup [.int z, .int p])] A = .ok (.xc "TooMany" [("size", .int z)] [some (.tup [.int z, .int p])]) A := by
      simp [b_look_at_great, h1, sRaiseX, withE]
    exact runB_xc rfl key
  · by_cases h2 : p > 12
    · have : ¬ (z ≤ 60 ∧ p ≤ 12) := by omega
      rw [if_neg this]
      have key : b_look_at_great [some (.tup [.int z, .int p])] A = .ok (.xc "TooMany" [("size", .int z)] [some (.tup [.int z, .int p])]) A := by
        simp [b_look_at_great, h1, h2, sRaiseX, withE]
      exact runB_xc rfl key
    · have : (z ≤ 60 ∧ p ≤ 12) := by omega
      rw [if_pos this]
      have key : b_look_at_great [some (.tup [.int z, .int p])] A = .ok (.nx [some (.tup [.int z, .int p])]) A := by
        simp [b_look_at_great, h1, h2]
      rw [m_look_at_great, runB_nx rfl key, trimR_same]
def toldR (d : D) (A : List O) : R D := if szI 16 d ≤ 60 ∧ dpI 16 d ≤ 12 then .ok d A else .ex "TooMany" [("size", .int (szI 16 d))] A
def toldD (d : D) : D := if szI 16 d ≤ 60 ∧ dpI 16 d ≤ 12 then .tup [.str "told", d] else .tup [.str "many", .int (szI 16 d)]
theorem other_gen {w : String} {d' : D} {mr : List D → List O → R D} (i1 : dInK "RULES" ["pushed", "opened", "joined", "lean"] true (.str (Str.ofString w)) (.cls "RULES") A = .ok (.bl false) A)
    (i2 : dGetK "RULES" ["pushed", "opened", "joined", "lean"] ["pushed", "opened", "joined", "lean"] (.cls "RULES") (.str (Str.ofString w)) A = .ok (.cls w) A)
    (i3 : [("pushed", m_pushed), ("opened", (m_opened 16)), ("joined", (m_joined 16)), ("lean", (m_lean 16))].lookup w = some mr)
    (i4 : (Str.ofString w = Str.ofString "opened") = False) (hr : mr [d] A = .ok d' A) (hd : Dec m n s d') (hn : n ≤ 16) : m_otherwise [d, .str (Str.ofString w)] A = toldR d' A := by
  have e1 := size_ok hd hn A
  have e2 := great_ok (z := szI 16 d') (p := dpI 16 d') (A := A)
  unfold toldR
  have e3 : mCallL 2 [("pushed", m_pushed), ("opened", (m_opened 16)), ("joined", (m_joined 16)), ("lean", (m_lean 16))] (mArgs (mVar 0) mArgs0) [some d, some (.str (Str.ofString w)), some (.cls w), none] A = .ok d' A := by
    simp [mCallL, i3, hr]
  have e0 : fIsi [.str (Str.ofString w), .ty .str] A = .ok (.bl true) A := rfl
  by_cases h : szI 16 d' ≤ 60 ∧ dpI 16 d' ≤ 12
  · rw [if_pos h] at e2 ⊢
    have key : b_otherwise [some d, some (.str (Str.ofString w)), none, none] A = .ok (.rt d') A := by
      simp [b_otherwise, e0, i1, i2, i4, e1, e2, e3]
    rw [m_otherwise, runB_rt rfl key, trimR_same]
  · rw [if_neg h] at e2 ⊢
    have key : b_otherwise [some d, some (.str (Str.ofString w)), none, none] A = .ok (.xc "TooMany" [("size", .int (szI 16 d'))] [some d, some (.str (Str.ofString w)), some (.cls w), some d']) A := by
      simp [b_otherwise, e0, i1, i2, i4, e1, e2, e3]
    exact runB_xc rfl key
theorem told_ok {w d' : D} (ho : m_otherwise [d, w] A = toldR d' A) : m_law_otherwise_told [d, w] A = .ok (toldD d') A := by
  unfold toldR at ho
  unfold toldD
  by_cases h : szI 16 d' ≤ 60 ∧ dpI 16 d' ≤ 12
  · rw [if_pos h] at ho ⊢
    have key : b_law_otherwise_told [some d, some w, none, none] A = .ok (.rt (.tup [.str "told", d'])) A := by
      simp [b_law_otherwise_told, ho]
    rw [m_law_otherwise_told, runB_rt rfl key, trimR_same]
  · rw [if_neg h] at ho ⊢
    have e4 : dFldL ["TooMany"] "size" (.exc "TooMany" ["size"] [.int (szI 16 d')]) A = .ok (.int (szI 16 d')) A := by
      simp [dFldL, dFldX, List.lookup]
    have key : b_law_otherwise_told [some d, some w, none, none] A = .ok (.rt (.tup [.str "many", .int (szI 16 d')])) A := by
      generalize szI 16 d' = z at *
      simp [b_law_otherwise_told, ho, e4]
    rw [m_law_otherwise_told, runB_rt rfl key, trimR_same]
end
end Mb
end
section
set_option Elab.async false
set_option linter.all false
set_option maxRecDepth 100000
set_option maxHeartbeats 400000
namespace Mb
open PySem PySem.Spec L2 Vi
section
variable {m n s f k : Nat} {d e : D} {A : List O} {r : List Bool} {a : Bool}
/-! nots put inwards -/
def flipW (w : Str) : Str := if w = ("and" : Str) then "or" else if w = ("or" : Str) then "and" else if w = ("yes" : Str) then "no" else if w = ("no" : Str) then "yes" else w
def pairF (f g : D → D) (r : D) : D := match r with
  | .tup [x, y] => .tup [f x, g y]
  | r => r
def pshF : Nat → Bool → D → D
  | 0, _, d => d
  | n + 1, a, d => match d with
    | .tup [.str w] => .tup [.str (if a then flipW w else w)]
    | .tup [.str w, x] => if w = ("not" : Str) then pshF n (!a) x else if w = ("wish" : Str) then (if a then .tup [.str "not", d] else d) else
        match x with
        | .tup es => .tup [.str (if a then flipW w else w), .tup (es.map (pshF n a))]
        | _ => d
    | .tup [.str w, .tup rs, e] => .tup [.str w, .tup (rs.map (pairF (pshF n false) (pshF n a))), pshF n a e]
    | d => d
@[simp] theorem flip_0 : flipW (Str.ofString "and") = Str.ofString "or" := by simp [flipW]
@[simp] theorem flip_1 : flipW (Str.ofString "or") = Str.ofString "and" := by simp [flipW]
@[simp] theorem flip_2 : flipW (Str.ofString "yes") = Str.ofString "no" := by simp [flipW]
@[simp] theorem flip_3 : flipW (Str.ofString "no") = Str.ofString "yes" := by simp [flipW]
theorem psh_yes : pshF (n + 1) a (.tup [.str "yes"]) = .tup [.str (if a then "no" else "yes")] := by simp [pshF]
theorem psh_no : pshF (n + 1) a (.tup [.str "no"]) = .tup [.str (if a then "yes" else "no")] := by simp [pshF]
theorem psh_wish {x : D} : pshF (n + 1) a (.tup [.str "wish", x]) = if a then .tup [.str "not", .tup [.str "wish", x]] else .tup [.str "wish", x] := by simp [pshF]
theorem psh_not {x : D} : pshF (n + 1) a (.tup [.str "not", x]) = pshF n (!a) x := by simp [pshF]
theorem psh_and {es : List D} : pshF (n + 1) a (.tup [.str "and", .tup es]) = .tup [.str (if a then "or" else "and"), .tup (es.map (pshF n a))] := by simp [pshF]
theorem psh_or {es : List D} : pshF (n + 1) a (.tup [.str "or", .tup es]) = .tup [.str (if a then "and" else "or"), .tup (es.map (pshF n a))] := by simp [pshF]
theorem psh_cases {ps : List (D × D)} : pshF (n + 1) a (.tup [.str "cases", .tup (ps.map fun p => .tup [p.1, p.2]), e]) = .tup [.str "cases", .tup (ps.map fun p => .tup [pshF n false p.1, pshF n a p.2]), pshF n a e] := by
  simp [pshF, pairF, Function.comp_def]
theorem pushed_s (f : Nat) : m_pushed_by (f + 1) = runB 7 (b_pushed_by (m_pushed_by f)) := rfl
theorem ow_and : m_other_word [.str "and"] A = .ok (.str "or") A := by
  simp [m_other_word, b_other_word, mDispS, dGetT, keyK, kIx, List.findIdx?_cons]
theorem ow_or : m_other_word [.str "or"] A = .ok (.str "and") A := by
  simp [m_other_word, b_other_word, mDispS, dGetT, keyK, kIx, List.findIdx?_cons]
theorem ow_yes : m_other_word [.str "yes"] A = .ok (.str "no") A := by
  simp [m_other_word, b_other_word, mDispS, dGetT, keyK, kIx, List.findIdx?_cons]
theorem ow_no : m_other_word [.str "no"] A = .ok (.str "yes") A := by
  simp [m_other_word, b_other_word, mDispS, dGetT, keyK, kIx, List.findIdx?_cons]
theorem pushed_by_ok : ∀ {n s : Nat} {d : D} {a : Bool}, Dec m n s d → ∀ {f : Nat}, n ≤ f → ∀ A, m_pushed_by f [d, .bl a] A = .ok (pshF f a d) A
  | n + 1, s, d, a, h, f, hf, A => by
    obtain ⟨f, rfl⟩ : ∃ g, f = g + 1 := ⟨f - 1, by omega⟩
    rw [pushed_s]
    have e1 := ow_and (A := A)
    have e2 := ow_or (A := A)
    have e3 := ow_yes (A := A)
    have e4 := ow_no (A := A)
    rcases h with ⟨h, h2 | h2 | ⟨k, hk, h2⟩⟩ | ⟨e, t, h1, h2, h3⟩ | ⟨w, es, t, h1, h2, h3, h4, h5⟩ | ⟨ps, e, t, h1, h2, h3, h4, h5, h6⟩
    · subst h2
      rw [psh_yes]
      cases a <;> simp [b_pushed_by, e3]
    · subst h2
      rw [psh_no]
      cases a <;> simp [b_pushed_by, e4]
    · subst h2
      rw [psh_wish]
      cases a <;> simp [b_pushed_by]
    · subst h1
      rw [psh_not]
      have := pushed_by_ok (a := !a) h2 (f := f) (by omega) A
      simp [b_pushed_by, this]
    · subst h1
      have ih : ∀ e ∈ es, m_pushed_by f [e, .bl a] A = .ok (pshF f a e) A := fun e he => pushed_by_ok (h4 e he) (by omega) A
      generalize hg : pshF f a = g at *
      have L : ∀ (c : Option D) (q : D), lcD (fun _ => True) (tgN 6) mYes (mCall (m_pushed_by f) [] (mArgs (mVar 6) (mArgs (mVar 1) mArgs0))) [c, some (.bl a), some q, none, none, none, none] es [] A = .ok (es.map g) A := fun c q =>
        lcD_map g trivial (by omega) fun e he => ⟨_, tgN_e, by simp [ih e he]⟩
      have l1 : (es.map g).length < 16777216 := by rw [List.length_map]; omega
      cases w
      · have := psh_or (n := f) (a := a) (es := es)
        rw [hg] at this
        have this : pshF (f + 1) a (.tup [.str (if false = true then "and" else "or"), .tup es]) = _ := this
        rw [this]
        generalize es.map g = X at *
        cases a <;> simp [b_pushed_by, e2, L, l1, wipeD]
      · have := psh_and (n := f) (a := a) (es := es)
        rw [hg] at this
        have this : pshF (f + 1) a (.tup [.str (if true = true then "and" else "or"), .tup es]) = _ := this
        rw [this]
        generalize es.map g = X at *
        cases a <;> simp [b_pushed_by, e1, L, l1, wipeD]
    · subst h1
      rw [psh_cases]
      have ih1 : ∀ p ∈ ps, m_pushed_by f [p.1, .bl false] A = .ok (pshF f false p.1) A := fun p hp => pushed_by_ok (h4 p hp).1 (by omega) A
      have ih2 : ∀ p ∈ ps, m_pushed_by f [p.2, .bl a] A = .ok (pshF f a p.2) A := fun p hp => pushed_by_ok (h4 p hp).2 (by omega) A
      have ih3 := pushed_by_ok (a := a) h5 (f := f) (by omega) A
      generalize pshF f false = g0 at *
      generalize pshF f a = g1 at *
      have L : ∀ (c : Option D) (q : D), lcD (fun _ => True) (tgT 2 (tgsCons (tgN 4) (tgsCons (tgN 5) tgsNil))) mYes (mA fTup (mArgs (mCall (m_pushed_by f) [] (mArgs (mVar 4) (mArgs (mC (.bl false)) mArgs0))) (mArgs (mCall (m_pushed_by f) [] (mArgs (mVar 5) (mArgs (mVar 1) mArgs0))) mArgs0))) [c, some (.bl a), some q, none, none, none, none] (ps.map fun p => .tup [p.1, p.2]) [] A = .ok (ps.map fun p => .tup [g0 p.1, g1 p.2]) A := fun c q => by
        rw [lcD_m (fun p : D × D => D.tup [g0 p.1, g1 p.2]) trivial (by omega) fun p hp => ?_]
        exact ⟨[c, some (.bl a), some q, none, some p.1, some p.2, none], by simp, by simp [ih1 p hp, ih2 p hp]⟩
      have l1 : (ps.map fun p => D.tup [g0 p.1, g1 p.2]).length < 16777216 := by rw [List.length_map]; omega
      generalize (ps.map fun p => D.tup [g0 p.1, g1 p.2]) = X at *
      simp [b_pushed_by, ih3, L, l1, wipeD]
theorem m_pushed_ok (h : Dec m n s d) (hn : n ≤ 16) : m_pushed [d] A = .ok (pshF 16 false d) A := by
  have := pushed_by_ok (a := false) h hn A
  simp [m_pushed, b_pushed, this]
theorem psh_dec : ∀ {n s : Nat} {d : D} {a : Bool}, Dec m n s d → ∀ {f : Nat}, n ≤ f → Dec m (n + 1) (2 * s) (pshF f a d)
  | n + 1, s, d, a, h, f, hf => by
    obtain ⟨f, rfl⟩ : ∃ g, f = g + 1 := ⟨f - 1, by omega⟩
    rcases h with ⟨h, h2 | h2 | ⟨k, hk, h2⟩⟩ | ⟨e, t, h1, h2, h3⟩ | ⟨w, es, t, h1, h2, h3, h4, h5⟩ | ⟨ps, e, t, h1, h2, h3, h4, h5, h6⟩
    · subst h2
      rw [psh_yes]
      cases a
      · exact .inl ⟨by omega, .inl rfl⟩
      · exact .inl ⟨by omega, .inr (.inl rfl)⟩
    · subst h2
      rw [psh_no]
      cases a
      · exact .inl ⟨by omega, .inr (.inl rfl)⟩
      · exact .inl ⟨by omega, .inl rfl⟩
    · subst h2
      rw [psh_wish]
      cases a
      · exact .inl ⟨by omega, .inr (.inr ⟨k, hk, rfl⟩)⟩
      · exact .inr (.inl ⟨_, 1, rfl, .inl ⟨by omega, .inr (.inr ⟨k, hk, rfl⟩)⟩, by omega⟩)
    · subst h1
      rw [psh_not]
      exact (psh_dec h2 (by omega)).mono (by omega) (by omega)
    · subst h1
      have ih : ∀ e ∈ es, Dec m (n + 1) (2 * t) (pshF f a e) := fun e he => psh_dec (h4 e he) (by omega)
      have hs : (es.map (pshF f a)).length * (2 * t) + 1 ≤ 2 * s := by
        rw [List.length_map, Nat.mul_left_comm]; omega
      have mm : ∀ e ∈ es.map (pshF f a), Dec m (n + 1) (2 * t) e := fun e he => by
        obtain ⟨x, hx, rfl⟩ := List.mem_map.mp he
        exact ih x hx
      have hne : es.map (pshF f a) ≠ [] := by simpa using h2
      have hle : (es.map (pshF f a)).length ≤ 6 := by rw [List.length_map]; exact h3
      cases w
      · have := psh_or (n := f) (a := a) (es := es)
        have this : pshF (f + 1) a (.tup [.str (if false = true then "and" else "or"), .tup es]) = _ := this
        rw [this]
        exact .inr (.inr (.inl ⟨a, es.map (pshF f a), 2 * t, by cases a <;> rfl, hne, hle, mm, hs⟩))
      · have := psh_and (n := f) (a := a) (es := es)
        have this : pshF (f + 1) a (.tup [.str (if true = true then "and" else "or"), .tup es]) = _ := this
        rw [this]
        exact .inr (.inr (.inl ⟨!a, es.map (pshF f a), 2 * t, by cases a <;> rfl, hne, hle, mm, hs⟩))
    · subst h1
      rw [psh_cases]
      refine .inr (.inr (.inr ⟨ps.map fun p => (pshF f false p.1, pshF f a p.2), pshF f a e, 2 * t, by rw [List.map_map]; rfl, by simpa using h2, by rw [List.length_map]; exact h3, ?_, psh_dec h5 (by omega), ?_⟩))
      · intro p hp
        obtain ⟨x, hx, rfl⟩ := List.mem_map.mp hp
        exact ⟨psh_dec (h4 x hx).1 (by omega), psh_dec (h4 x hx).2 (by omega)⟩
      · rw [List.length_map, Nat.mul_left_comm]; omega
end
end Mb
end
section
set_option Elab.async false
set_option linter.all false
set_option maxRecDepth 100000
set_option maxHeartbeats 400000
namespace Mb
open PySem PySem.Spec L2 Vi
section
variable {m n s f k : Nat} {d e : D} {A : List O} {r : List Bool} {a : Bool}
theorem dig3_len : ∀ k : Fin 1000, (PyData.shown (.int ((k : Nat) : Int))).length ≤ 5 ∧ PyData.showable (.int ((k : Nat) : Int)) = true := by decide +kernel
theorem Pyd.dig3 {k i : Nat} (h : i < 1000) : Pyd k 5 (.int i) := ⟨.int i, fun _ j _ => by cases j <;> rfl, rfl, Nat.zero_le _, (dig3_len ⟨i, h⟩).2, rfl, (dig3_len ⟨i, h⟩).1⟩
theorem Pyd.told {k : Nat} : Pyd k 6 (.str (Str.ofString "told")) := Pyd.str (by decide +kernel) (by decide +kernel)
theorem Pyd.many {k : Nat} : Pyd k 6 (.str (Str.ofString "many")) := Pyd.str (by decide +kernel) (by decide +kernel)
end
end Mb
end
section
set_option Elab.async false
set_option linter.all false
set_option maxRecDepth 100000
set_option maxHeartbeats 400000
namespace Mb
open PySem PySem.Spec L2 Vi
section
variable {m n s f k : Nat} {d e : D} {A : List O} {r : List Bool} {a : Bool}
/-! a decision made anew of its inner parts -/
abbrev flatP (ps : List (D × D)) (e : D) : List D := (ps.flatMap fun p => [p.1, p.2]) ++ [e]
abbrev pairsD (ps : List (D × D)) : List D := ps.map fun p => .tup [p.1, p.2]
theorem flatP_get {e : D} : ∀ {ps : List (D × D)} {i : Nat} {p : D × D}, ps[i]? = some p → (flatP ps e)[2 * i]? = some p.1 ∧ (flatP ps e)[2 * i + 1]? = some p.2
  | [], i, p, h => by cases h
  | q :: ps, 0, p, h => by cases h; exact ⟨rfl, rfl⟩
  | q :: ps, i + 1, p, h => by
    have ih := flatP_get (e := e) (ps := ps) (i := i) (p := p) h
    rw [show 2 * (i + 1) = 2 * i + 1 + 1 by omega]
    exact ih
theorem flatP_len {ps : List (D × D)} : (flatP ps e).length = 2 * ps.length + 1 := by
  rw [List.length_append, flat_len]; rfl
theorem ix_l {xs : List D} {i : Nat} {y : D} (h : xs[i]? = some y) : dIx (.lst xs) (.int (i : Int)) A = .ok y A := by
  rw [dIx_l, atI_at h]
theorem atI_last {xs : List D} : atI (xs ++ [e]) (-1) = some e := by
  have q : (1 : Int) ≤ (xs.length : Int) + 1 := by omega
  have q2 : (-1 + ((xs.length : Int) + 1)).toNat = xs.length := by omega
  unfold atI ixN
  simp [q, q2]
theorem ix_last {xs : List D} : dIx (.lst (xs ++ [e])) (.int (-1)) A = .ok e A := by
  rw [dIx_l, atI_last]
/-- the pairs of a flat list -/
theorem pairs_lc {ps : List (D × D)} (hl : ps.length ≤ 1000) (a0 : Option D) : lcD (fun _ => True) (tgN 3) mYes (mA fTup (mArgs (m2 dIx (mVar 1) (mVar 3)) (mArgs (m2 dIx (mVar 1) (m2 (dAdd true) (mVar 3) (mC (.int 1)))) mArgs0))) [a0, some (.lst (flatP ps e)), none, none] (rngC 0 2 ps.length) [] A = .ok (pairsD ps) A := by
  have := lcD_m (ok := fun _ => True) (tg := tgN 3) (me := mA fTup (mArgs (m2 dIx (mVar 1) (mVar 3)) (mArgs (m2 dIx (mVar 1) (m2 (dAdd true) (mVar 3) (mC (.int 1)))) mArgs0))) (σ := [a0, some (.lst (flatP ps e)), none, none]) (A := A) (f := fun i : Nat => D.int (0 + (i : Nat) * 2)) (fun i : Nat => (ps[i]?.map fun p => D.tup [p.1, p.2]).getD .non) (xs := List.range ps.length) trivial (by simp; omega) fun i hi => by
    have hi' : i < ps.length := List.mem_range.mp hi
    obtain ⟨g1, g2⟩ := flatP_get (e := e) (List.getElem?_eq_getElem hi')
    have i1 := ix_l (A := A) g1
    have i2 := ix_l (A := A) g2
    have c1 : (0 : Int) + (i : Nat) * 2 = ((2 * i : Nat) : Int) := by omega
    have c2 : dAdd true (.int ((2 * i : Nat) : Int)) (.int 1) A = .ok (.int ((2 * i + 1 : Nat) : Int)) A := rfl
    refine ⟨_, tgN_e, ?_⟩
    rw [c1, List.getElem?_eq_getElem hi']
    generalize ((2 * i : Nat) : Int) = u at *
    generalize ((2 * i + 1 : Nat) : Int) = u1 at *
    generalize flatP ps e = F at *
    simp [i1, i2, c2, -dIx_l, -dAdd_ii]
  unfold rngC
  rw [this]
  congr 1
  apply List.ext_getElem?
  intro i
  rw [List.getElem?_map, List.getElem?_map]
  by_cases hi : i < ps.length
  · rw [List.getElem?_range hi, List.getElem?_eq_getElem hi]
    simp [List.getElem?_eq_getElem hi]
  · rw [List.getElem?_eq_none (by simpa using hi), List.getElem?_eq_none (by omega)]; rfl
theorem rg_flat {ps : List (D × D)} (hl : ps.length ≤ 1000) : fRange3 [.int 0, .int (((flatP ps e).length : Int) - 1), .int 2] A = .ok (.fix (rngC 0 2 ps.length)) A := by
  rw [show ((flatP ps e).length : Int) - 1 = 2 * (ps.length : Int) by rw [flatP_len]; omega]
  exact rngC_two (by omega) A
theorem reb_yes {xs : List D} : m_rebuilt [.tup [.str "yes"], .lst xs] A = .ok (.tup [.str "yes"]) A := by simp [m_rebuilt, b_rebuilt]
theorem reb_no {xs : List D} : m_rebuilt [.tup [.str "no"], .lst xs] A = .ok (.tup [.str "no"]) A := by simp [m_rebuilt, b_rebuilt]
theorem reb_wish {xs : List D} {i : D} : m_rebuilt [.tup [.str "wish", i], .lst xs] A = .ok (.tup [.str "wish", i]) A := by simp [m_rebuilt, b_rebuilt]
theorem reb_not {x y : D} : m_rebuilt [.tup [.str "not", x], .lst [y]] A = .ok (.tup [.str "not", y]) A := by simp [m_rebuilt, b_rebuilt]
theorem reb_ao {w : Bool} {x : D} {xs : List D} (hl : xs.length < 16777216) : m_rebuilt [.tup [.str (if w then "and" else "or"), x], .lst xs] A = .ok (.tup [.str (if w then "and" else "or"), .tup xs]) A := by
  cases w <;> simp [m_rebuilt, b_rebuilt, hl]
theorem reb_cases {x y : D} {ps : List (D × D)} (hl : ps.length ≤ 1000) : m_rebuilt [.tup [.str "cases", x, y], .lst (flatP ps e)] A = .ok (.tup [.str "cases", .tup (pairsD ps), e]) A := by
  have e1 := rg_flat (A := A) (e := e) hl
  have e2 := fun a0 => pairs_lc (A := A) (e := e) hl a0
  have e3 : dIx (.lst (flatP ps e)) (.int (-1)) A = .ok e A := ix_last
  have hq : (pairsD ps).length < 16777216 := by rw [List.length_map]; omega
  generalize flatP ps e = F at *
  generalize pairsD ps = Q at *
  simp [m_rebuilt, b_rebuilt, e1, e2, e3, hq, wipeD, -dIx_l]
theorem put_yes {xs : List D} : m_law_put [.tup [.str "yes"], .lst xs] A = .ok (.tup [.str "yes"]) A := by simp [m_law_put, b_law_put]
theorem put_no {xs : List D} : m_law_put [.tup [.str "no"], .lst xs] A = .ok (.tup [.str "no"]) A := by simp [m_law_put, b_law_put]
theorem put_not {x y : D} : m_law_put [.tup [.str "not", x], .lst [y]] A = .ok (.tup [.str "not", y]) A := by simp [m_law_put, b_law_put]
theorem put_ao {w : Bool} {x : D} {xs : List D} (hl : xs.length < 16777216) : m_law_put [.tup [.str (if w then "and" else "or"), x], .lst xs] A = .ok (.tup [.str (if w then "and" else "or"), .tup xs]) A := by
  cases w <;> simp [m_law_put, b_law_put, hl]
theorem put_cases {x y : D} {ps : List (D × D)} (hl : ps.length ≤ 1000) : m_law_put [.tup [.str "cases", x, y], .lst (flatP ps e)] A = .ok (.tup [.str "cases", .tup (pairsD ps), e]) A := by
  have e1 := rg_flat (A := A) (e := e) hl
  have e2 := fun a0 => pairs_lc (A := A) (e := e) hl a0
  have e3 : dIx (.lst (flatP ps e)) (.int (-1)) A = .ok e A := ix_last
  have hq : (pairsD ps).length < 16777216 := by rw [List.length_map]; omega
  generalize flatP ps e = F at *
  generalize pairsD ps = Q at *
  simp [m_law_put, b_law_put, e1, e2, e3, hq, wipeD, -dIx_l]
end
end Mb
end
section
set_option Elab.async false
set_option linter.all false
set_option maxRecDepth 100000
set_option maxHeartbeats 400000
namespace Mb
open PySem PySem.Spec L2 Vi
section
variable {m n s f k : Nat} {d e y : D} {A : List O} {r : List Bool} {a b : Bool} {es : List D}
/-! yes and no, asked by == and in -/
abbrev ynS (b : Bool) : Str := if b then "yes" else "no"
theorem pys_len {g : D → Option PyData} : ∀ {ds : List D} {xs : List PyData}, pys g ds = some xs → xs.length = ds.length
  | [], xs, h => by cases h; rfl
  | d :: ds, xs, h => by
    obtain ⟨x, h1, h⟩ := Option.bind_eq_some_iff.mp h
    obtain ⟨ys, h2, rfl⟩ := Option.map_eq_some_iff.mp h
    rw [List.length_cons, List.length_cons, pys_len h2]
theorem dec_form (h : Dec m n s y) : ∃ (w : Str) (es : List D), y = .tup (.str w :: es) ∧ hdS y = w ∧ es.isEmpty = (decide (w = ynS true) || decide (w = ynS false)) := by
  rcases form_cases h.form with rfl | rfl | ⟨k, h0, _, rfl⟩ | ⟨e, rfl⟩ | ⟨w, es, rfl, _⟩ | ⟨ps, e, rfl, _⟩
  · exact ⟨_, _, rfl, rfl, by simp [ynS]⟩
  · exact ⟨_, _, rfl, rfl, by simp [ynS]⟩
  · exact ⟨_, _, rfl, rfl, by simp [ynS]⟩
  · exact ⟨_, _, rfl, rfl, by simp [ynS]⟩
  · cases w <;> exact ⟨_, _, rfl, rfl, by simp [ynS]⟩
  · exact ⟨_, _, rfl, rfl, by simp [ynS]⟩
theorem shp_yn : SeqAt.shaped (.tuple [.str (ynS b)]) = true := by cases b <;> decide +kernel
theorem dec_py (h : Dec m n s y) (hm : m ≤ 10) (hn : n ≤ 20) : ∃ x, (∀ A j, 60 ≤ j → py A j y = some x) ∧ SeqAt.shaped x = true ∧ x.canLay0 = true ∧ x.depth ≤ 60 ∧ ∀ b, PyData.eqv x (.tuple [.str (ynS b)]) = decide (hdS y = ynS b) ∧ PyData.eqv (.tuple [.str (ynS b)]) x = decide (hdS y = ynS b) := by
  obtain ⟨x, h1, h2⟩ := h.py hm
  obtain ⟨w, es, e1, e2, e3⟩ := dec_form h
  have hd : x.depth ≤ 60 := Nat.le_trans h2.2.1 (by omega)
  refine ⟨x, fun A j hj => h1 A j (by omega), ?_, h2.1, hd, fun b => ?_⟩
  · unfold SeqAt.shaped
    rw [h2.1, decide_eq_true (show x.depth ≤ 64 by omega)]; rfl
  have q := h1 [] 61 (by omega)
  rw [e1] at q
  obtain ⟨xs, hx, rfl⟩ := Option.map_eq_some_iff.mp (show (pys (py [] 60) (.str w :: es)).map _ = some x from q)
  obtain ⟨z, hz, hx⟩ := Option.bind_eq_some_iff.mp hx
  obtain ⟨zs, hzs, rfl⟩ := Option.map_eq_some_iff.mp hx
  cases hz
  have hl := pys_len hzs
  rw [e2]
  have key : (decide (w = ynS b) && zs.isEmpty) = decide (w = ynS b) := by
    have : zs.isEmpty = es.isEmpty := by
      cases zs <;> cases es <;> simp at hl <;> rfl
    rw [this, e3]
    cases b <;> by_cases z : w = ynS true <;> by_cases z2 : w = ynS false <;> simp [z, z2]
  have s1 : ∀ s t : Str, (s == t) = decide (s = t) := fun s t => by
    by_cases h : s = t
    · subst h; simp
    · simp [h]
  constructor
  · refine Eq.trans ?_ key
    show (PyData.eqvAll (.str w :: zs) [.str (ynS b)]) = _
    cases zs with
    | nil => simp [PyData.eqvAll, PyData.eqv, s1]
    | cons => simp [PyData.eqvAll]
  · refine Eq.trans ?_ key
    show (PyData.eqvAll [.str (ynS b)] (.str w :: zs)) = _
    cases zs with
    | nil =>
      simp only [PyData.eqvAll, PyData.eqv, s1, List.isEmpty_nil, Bool.and_true]
      by_cases h : w = ynS b
      · rw [h]
      · rw [decide_eq_false h, decide_eq_false (fun z => h z.symm)]
    | cons => simp [PyData.eqvAll]
theorem yn_eq (h : Dec m n s y) (hm : m ≤ 10) (hn : n ≤ 20) (b : Bool) (A : List O) : dEq y (.tup [.str (ynS b)]) A = .ok (.bl (decide (hdS y = ynS b))) A ∧ dNe y (.tup [.str (ynS b)]) A = .ok (.bl (!decide (hdS y = ynS b))) A := by
  obtain ⟨x, h1, h2, _, _, h3⟩ := dec_py h hm hn
  obtain ⟨w, es, e1, _⟩ := dec_form h
  have q : dEq y (.tup [.str (ynS b)]) A = dEqD y (.tup [.str (ynS b)]) A ∧ dNe y (.tup [.str (ynS b)]) A = dNeD y (.tup [.str (ynS b)]) A := by rw [e1]; exact ⟨rfl, rfl⟩
  rw [q.1, q.2]
  unfold dEqD dNeD
  rw [h1 A 64 (by omega), show py A 64 (.tup [.str (ynS b)]) = some (.tuple [.str (ynS b)]) from rfl]
  simp only [h2, shp_yn, Bool.and_self, if_true, (h3 b).1]
  constructor <;> first | rfl | trivial
theorem yn_list (h : ∀ e ∈ es, Dec m n s e) (hm : m ≤ 10) (hn : n ≤ 20) (b : Bool) (A : List O) : orD (dIn false) (dInD false) (.tup [.str (ynS b)]) (.lst es) A = .ok (.bl (es.any fun e => decide (hdS e = ynS b))) A := by
  have key : ∀ es : List D, (∀ e ∈ es, Dec m n s e) → ∃ xs, pys (py A 63) es = some xs ∧ PyData.canLayAll0 xs = true ∧ PyData.depthAll xs ≤ 60 ∧ (xs.any fun z => PyData.eqv z (.tuple [.str (ynS b)])) = es.any fun e => decide (hdS e = ynS b) := fun es => by
    induction es with
    | nil => intro _; exact ⟨[], rfl, rfl, Nat.zero_le _, rfl⟩
    | cons e es ih =>
      intro h
      obtain ⟨xs, a1, a2, a3, a4⟩ := ih fun z hz => h z (List.mem_cons_of_mem _ hz)
      obtain ⟨x, b1, b2, b3, b4, b5⟩ := dec_py (h e List.mem_cons_self) hm hn
      refine ⟨x :: xs, by rw [pys, b1 A 63 (by omega), a1]; rfl, by rw [PyData.canLayAll0, b3, a2]; rfl, by rw [PyData.depthAll]; omega, ?_⟩
      rw [List.any_cons, List.any_cons, a4, (b5 b).1]
  obtain ⟨xs, a1, a2, a3, a4⟩ := key es h
  rw [orD_e, show dIn false (.tup [.str (ynS b)]) (.lst es) A = .no from rfl]
  show dInD false _ _ A = _
  unfold dInD
  have e1 : py A 64 (.lst es) = some (.list xs) := by
    show (pys (py A 63) es).map _ = _
    rw [a1]; rfl
  have hs : SeqAt.shaped (.list xs) = true := by
    simp [SeqAt.shaped, PyData.canLay0, PyData.depth, a2]
    omega
  rw [e1, show py A 64 (.tup [.str (ynS b)]) = some (.tuple [.str (ynS b)]) from rfl]
  simp only [hs, shp_yn, Bool.and_self, if_true, a4]
  rfl
theorem yn_two (h : Dec m n s y) (hm : m ≤ 10) (hn : n ≤ 20) (A : List O) : orD (dIn false) (dInU false) y (.tup [.tup [.str "yes"], .tup [.str "no"]]) A = .ok (.bl (decide (hdS y = ynS true) || decide (hdS y = ynS false))) A := by
  obtain ⟨x, h1, h2, _, _, h3⟩ := dec_py h hm hn
  obtain ⟨w, es, e1, _⟩ := dec_form h
  have q : dIn false y (.tup [.tup [.str "yes"], .tup [.str "no"]]) A = .no := by rw [e1]; rfl
  rw [orD_e, q]
  show dInU false _ _ A = _
  unfold dInU
  have hs : SeqAt.shaped (.tuple [.tuple [.str "yes"], .tuple [.str "no"]]) = true := by decide +kernel
  rw [h1 A 64 (by omega), show py A 64 (.tup [.tup [.str "yes"], .tup [.str "no"]]) = some (.tuple [.tuple [.str "yes"], .tuple [.str "no"]]) from rfl]
  simp only [hs, h2, Bool.and_self, if_true]
  have k1 := (h3 true).2
  have k2 := (h3 false).2
  have k1 : PyData.eqv (.tuple [.str "yes"]) x = _ := k1
  have k2 : PyData.eqv (.tuple [.str "no"]) x = _ := k2
  rw [List.any_cons, List.any_cons, List.any_nil, k1, k2, Bool.or_false]
  rfl
theorem eq_rnil {k L q : Nat} {ds : List D} {A : List O} (hA : A[q]? = some (.lst ds)) (hk : k < 64) (h : ∀ d ∈ ds, Pyd k L d) : dEq (.ref q) (.lst []) A = .ok (.bl ds.isEmpty) A := by
  obtain ⟨xs, h1, h2, h3, h4⟩ := Pyl.ofmem h
  have e : py A 64 (.ref q) = some (.list xs) := by
    show (match A[q]? with
      | some (.lst ds) => (pys (py A 63) ds).map fun xs => PyData.list xs
      | _ => none) = _
    rw [hA]
    show (pys (py A 63) ds).map _ = _
    rw [h1 A 63 (by omega)]; rfl
  have e2 : py A 64 (.lst []) = some (.list []) := rfl
  have hs : SeqAt.shaped (.list xs) = true := by
    simp [SeqAt.shaped, PyData.canLay0, PyData.depth, h2]
    omega
  show dEqD _ _ A = _
  unfold dEqD
  rw [e, e2]
  simp only [hs, ← h4]
  cases xs <;> rfl
end
end Mb
end
section
set_option Elab.async false
set_option linter.all false
set_option maxRecDepth 100000
set_option maxHeartbeats 400000
namespace Mb
open PySem PySem.Spec L2 Vi
section
variable {m n s f k : Nat} {d e y : D} {A : List O} {r : List Bool} {a b : Bool} {es : List D}
/-! yes and no left out -/
abbrev isYn (b : Bool) (y : D) : Bool := decide (hdS y = ynS b)
def lnR : List (D × D) → D → List (D × D) × D
  | [], e => ([], e)
  | p :: ps, e => if isYn true p.1 then ([], p.2) else if isYn false p.1 then lnR ps e else (p :: (lnR ps e).1, (lnR ps e).2)
def lnC (ps : List (D × D)) (e : D) : D := if (lnR ps e).1.isEmpty then (lnR ps e).2 else .tup [.str "cases", .tup (pairsD (lnR ps e).1), (lnR ps e).2]
def lnJ (w : Bool) (es : List D) : D := if (es.filter fun e => !isYn w e).any (isYn (!w)) then .tup [.str (ynS (!w))] else if (es.filter fun e => !isYn w e).isEmpty then .tup [.str (ynS w)] else .tup [.str (if w then "and" else "or"), .tup (es.filter fun e => !isYn w e)]
def lnN (y : D) : D := if isYn true y then .tup [.str (ynS false)] else if isYn false y then .tup [.str (ynS true)] else .tup [.str "not", y]
def twoF (f : D → D) (r : D) : D × D := match r with
  | .tup [x, y] => (f x, f y)
  | r => (r, r)
def leanF : Nat → D → D
  | 0, d => d
  | n + 1, d => match d with
    | .tup [.str w, x] => if w = ("not" : Str) then lnN (leanF n x) else
        match x with
        | .tup es => lnJ (decide (w = ("and" : Str))) (es.map (leanF n))
        | _ => d
    | .tup [.str w, .tup rs, e] => lnC (rs.map (twoF (leanF n))) (leanF n e)
    | d => d
theorem ln_yes : leanF (n + 1) (.tup [.str "yes"]) = .tup [.str "yes"] := rfl
theorem ln_no : leanF (n + 1) (.tup [.str "no"]) = .tup [.str "no"] := rfl
theorem ln_wish {i : Int} : leanF (n + 1) (.tup [.str "wish", .int i]) = .tup [.str "wish", .int i] := by simp [leanF]
theorem ln_not {x : D} : leanF (n + 1) (.tup [.str "not", x]) = lnN (leanF n x) := by simp [leanF]
theorem ln_ao {w : Bool} : leanF (n + 1) (.tup [.str (if w then "and" else "or"), .tup es]) = lnJ w (es.map (leanF n)) := by cases w <;> simp [leanF]
theorem ln_cases {ps : List (D × D)} : leanF (n + 1) (.tup [.str "cases", .tup (ps.map fun p => .tup [p.1, p.2]), e]) = lnC (ps.map fun p => (leanF n p.1, leanF n p.2)) (leanF n e) := by
  simp [leanF, twoF, Function.comp_def]
theorem ynDec {s : Nat} (h : 1 ≤ s) : Dec m (n + 1) s (.tup [.str (ynS b)]) := by
  cases b
  · exact .inl ⟨h, .inr (.inl rfl)⟩
  · exact .inl ⟨h, .inl rfl⟩
theorem lnR_mem : ∀ {ps : List (D × D)} {e : D} {p : D × D}, p ∈ (lnR ps e).1 → p ∈ ps
  | [], e, p, h => by simp [lnR] at h
  | q :: ps, e, p, h => by
    rw [lnR] at h
    split at h
    · simp at h
    · split at h
      · exact List.mem_cons_of_mem _ (lnR_mem h)
      · rcases List.mem_cons.mp h with rfl | h
        · exact List.mem_cons_self
        · exact List.mem_cons_of_mem _ (lnR_mem h)
theorem lnR_len : ∀ {ps : List (D × D)} {e : D}, (lnR ps e).1.length ≤ ps.length
  | [], e => Nat.le_refl _
  | q :: ps, e => by
    have ih := lnR_len (ps := ps) (e := e)
    rw [lnR, List.length_cons]
    split
    · simp
    · split
      · omega
      · rw [List.length_cons]; omega
theorem lnR_last {P : D → Prop} : ∀ {ps : List (D × D)} {e : D}, P e → (∀ p ∈ ps, P p.2) → P (lnR ps e).2
  | [], e, h, _ => h
  | q :: ps, e, h, hp => by
    have ih := lnR_last (P := P) (ps := ps) (e := e) h fun p hq => hp p (List.mem_cons_of_mem _ hq)
    rw [lnR]
    split
    · exact hp q List.mem_cons_self
    · split
      · exact ih
      · exact ih
theorem lnC_dec {ps : List (D × D)} {t : Nat} (h3 : ps.length ≤ 4) (hp : ∀ p ∈ ps, Dec m n t p.1 ∧ Dec m n t p.2) (he : Dec m n t e) (hs : (2 * ps.length + 1) * t + 1 ≤ s) : Dec m (n + 1) s (lnC ps e) := by
  have hl := lnR_len (ps := ps) (e := e)
  have h2 := lnR_last (P := Dec m n t) he fun p hq => (hp p hq).2
  have hm : (2 * (lnR ps e).1.length + 1) * t ≤ (2 * ps.length + 1) * t := Nat.mul_le_mul_right t (by omega)
  unfold lnC
  split
  · exact h2.mono (by omega) (by
      have : 1 * t ≤ (2 * ps.length + 1) * t := Nat.mul_le_mul_right t (by omega)
      omega)
  · rename_i hne
    exact .inr (.inr (.inr ⟨(lnR ps e).1, (lnR ps e).2, t, rfl, fun z => hne (by rw [z]; rfl), by omega, fun p hq => hp p (lnR_mem hq), h2, by omega⟩))
theorem lnJ_dec {w : Bool} {t : Nat} (h3 : es.length ≤ 6) (hp : ∀ e ∈ es, Dec m n t e) (hs : es.length * t + 1 ≤ s) : Dec m (n + 1) s (lnJ w es) := by
  unfold lnJ
  split
  · exact ynDec (by omega)
  · split
    · exact ynDec (by omega)
    · rename_i hne
      have hl := List.length_filter_le (fun e => !isYn w e) es
      have hm : (es.filter fun e => !isYn w e).length * t ≤ es.length * t := Nat.mul_le_mul_right t hl
      exact .inr (.inr (.inl ⟨w, _, t, rfl, fun z => hne (by rw [z]; rfl), by omega, fun e he => hp e (List.mem_filter.mp he).1, by omega⟩))
theorem lnN_dec {t : Nat} (h : Dec m n t y) (hs : t + 1 ≤ s) : Dec m (n + 1) s (lnN y) := by
  unfold lnN
  split
  · exact ynDec (by omega)
  · split
    · exact ynDec (by omega)
    · exact .inr (.inl ⟨y, t, rfl, h, hs⟩)
theorem ln_dec : ∀ {n s : Nat} {d : D}, Dec m n s d → ∀ {f : Nat}, n ≤ f → Dec m n s (leanF f d)
  | n + 1, s, d, h, f, hf => by
    obtain ⟨f, rfl⟩ : ∃ g, f = g + 1 := ⟨f - 1, by omega⟩
    rcases h with ⟨h, h2 | h2 | ⟨k, hk, h2⟩⟩ | ⟨e, t, h1, h2, h3⟩ | ⟨w, es, t, h1, h2, h3, h4, h5⟩ | ⟨ps, e, t, h1, h2, h3, h4, h5, h6⟩
    · subst h2
      rw [ln_yes]
      exact .inl ⟨h, .inl rfl⟩
    · subst h2
      rw [ln_no]
      exact .inl ⟨h, .inr (.inl rfl)⟩
    · subst h2
      rw [ln_wish]
      exact .inl ⟨h, .inr (.inr ⟨k, hk, rfl⟩)⟩
    · subst h1
      rw [ln_not]
      exact lnN_dec (ln_dec h2 (by omega)) h3
    · subst h1
      rw [ln_ao]
      exact lnJ_dec (t := t) (by rw [List.length_map]; exact h3) (fun e he => by
        obtain ⟨x, hx, rfl⟩ := List.mem_map.mp he
        exact ln_dec (h4 x hx) (by omega)) (by rw [List.length_map]; exact h5)
    · subst h1
      rw [ln_cases]
      exact lnC_dec (t := t) (by rw [List.length_map]; exact h3) (fun p hp => by
        obtain ⟨x, hx, rfl⟩ := List.mem_map.mp hp
        exact ⟨ln_dec (h4 x hx).1 (by omega), ln_dec (h4 x hx).2 (by omega)⟩) (ln_dec h5 (by omega)) (by rw [List.length_map]; exact h6)
noncomputable def pick (r : List Bool) (ps : List (D × D)) (e : D) : Bool := match ps.find? (fun p => ansB p.1 r) with
  | some p => ansB p.2 r
  | none => ansB e r
end
end Mb
end
section
set_option Elab.async false
set_option linter.all false
set_option maxRecDepth 100000
set_option maxHeartbeats 400000
namespace Mb
open PySem PySem.Spec L2 Vi
section
variable {m n s f k t : Nat} {d e y : D} {A : List O} {r : List Bool} {a b : Bool} {es : List D}
theorem lean_s (f : Nat) : m_lean (f + 1) = runB 7 (b_lean (m_lean f)) := rfl
theorem lean_loop (hm : m ≤ 10) (hn : n ≤ 20) {F : List D} : ∀ (qs : List (D × D)) (k : Nat) (last : D) (acc : List D) (x : Option D), (∀ (j : Nat) (p : D × D), qs[j]? = some p → F[2 * (k + j)]? = some p.1 ∧ F[2 * (k + j) + 1]? = some p.2) → (∀ p ∈ qs, Dec m n s p.1) → acc.length + qs.length ≤ 1000 →
    ∃ x', forD (fun _ => True) (tgN 3) b_lean_cases_1 ((List.range' k qs.length).map fun i => D.int (0 + (i : Nat) * 2)) [some (.lst F), some (.ref A.length), some last, x] (A ++ [.lst acc]) = .ok (.nx [some (.lst F), some (.ref A.length), some (lnR qs last).2, x']) (A ++ [.lst (acc ++ pairsD (lnR qs last).1)])
  | [], k, last, acc, x, _, _, _ => ⟨x, by simp [forD, lnR, pairsD]⟩
  | p :: qs, k, last, acc, x, hF, hp, hl => by
    simp only [List.length_cons] at hl
    obtain ⟨g1, g2⟩ := hF 0 p rfl
    rw [Nat.add_zero] at g1 g2
    have hd := hp p List.mem_cons_self
    have y1 := fun A => (yn_eq hd hm hn true A).1
    have y2 := fun A => (yn_eq hd hm hn false A).2
    have c1 : (0 : Int) + (k : Nat) * 2 = ((2 * k : Nat) : Int) := by omega
    have c2 : ∀ A, dAdd true (.int ((2 * k : Nat) : Int)) (.int 1) A = .ok (.int ((2 * k + 1 : Nat) : Int)) A := fun _ => rfl
    have i1 := fun A => ix_l (A := A) g1
    have i2 := fun A => ix_l (A := A) g2
    have hq : (A ++ [O.lst acc])[A.length]? = some (.lst acc) := get_last
    have ap := app_last (A := A) (ds := acc) (x := D.tup [p.1, p.2]) (by omega)
    rw [List.length_cons, List.range'_succ, List.map_cons, forD, if_pos trivial, c1, lnR]
    by_cases z1 : hdS p.1 = ynS true
    · rw [decide_eq_true z1] at y1
      have step : b_lean_cases_1 [some (.lst F), some (.ref A.length), some last, some (.int ((2 * k : Nat) : Int))] (A ++ [O.lst acc]) = .ok (.bk [some (.lst F), some (.ref A.length), some p.2, some (.int ((2 * k : Nat) : Int))]) (A ++ [O.lst acc]) := by
        have y1 : ∀ A, dEq p.1 (.tup [.str "yes"]) A = _ := y1
        generalize A ++ [O.lst acc] = Z at *
        generalize ((2 * k : Nat) : Int) = u at *
        generalize ((2 * k + 1 : Nat) : Int) = u1 at *
        simp [b_lean_cases_1, i1, i2, y1, c2, -dIx_l, -dAdd_ii]
      refine ⟨some (.int ((2 * k : Nat) : Int)), ?_⟩
      rw [if_pos (by simpa using z1)]
      simp only [pairsD, List.map_nil, List.append_nil]
      generalize A ++ [O.lst acc] = Z at *
      generalize ((2 * k : Nat) : Int) = u at *
      simp [step]
    · rw [decide_eq_false z1] at y1
      rw [if_neg (by simpa using z1)]
      have hF2 : ∀ (j : Nat) (q : D × D), qs[j]? = some q → F[2 * (k + 1 + j)]? = some q.1 ∧ F[2 * (k + 1 + j) + 1]? = some q.2 := fun j q h => by
        have := hF (j + 1) q h
        rwa [show k + (j + 1) = k + 1 + j by omega] at this
      by_cases z2 : hdS p.1 = ynS false
      · rw [decide_eq_true z2] at y2
        rw [if_pos (by simpa using z2)]
        obtain ⟨x', e'⟩ := lean_loop hm hn qs (k + 1) last acc (some (.int ((2 * k : Nat) : Int))) hF2 (fun q hq => hp q (List.mem_cons_of_mem _ hq)) (by omega)
        refine ⟨x', ?_⟩
        simp only [Int.zero_add] at e'
        have step : b_lean_cases_1 [some (.lst F), some (.ref A.length), some last, some (.int ((2 * k : Nat) : Int))] (A ++ [O.lst acc]) = .ok (.nx [some (.lst F), some (.ref A.length), some last, some (.int ((2 * k : Nat) : Int))]) (A ++ [O.lst acc]) := by
          have y1 : ∀ A, dEq p.1 (.tup [.str "yes"]) A = _ := y1
          have y2 : ∀ A, dNe p.1 (.tup [.str "no"]) A = _ := y2
          generalize A ++ [O.lst acc] = Z at *
          generalize ((2 * k : Nat) : Int) = u at *
          generalize ((2 * k + 1 : Nat) : Int) = u1 at *
          simp [b_lean_cases_1, i1, i2, y1, y2, c2, -dIx_l, -dAdd_ii]
        generalize A ++ [O.lst acc] = Z at *
        generalize ((2 * k : Nat) : Int) = u at *
        simp [step, e']
      · rw [decide_eq_false z2] at y2
        rw [if_neg (by simpa using z2)]
        obtain ⟨x', e'⟩ := lean_loop hm hn qs (k + 1) last (acc ++ [D.tup [p.1, p.2]]) (some (.int ((2 * k : Nat) : Int))) hF2 (fun q hq => hp q (List.mem_cons_of_mem _ hq)) (by simp; omega)
        refine ⟨x', ?_⟩
        simp only [Int.zero_add] at e'
        have step : b_lean_cases_1 [some (.lst F), some (.ref A.length), some last, some (.int ((2 * k : Nat) : Int))] (A ++ [O.lst acc]) = .ok (.nx [some (.lst F), some (.ref A.length), some last, some (.int ((2 * k : Nat) : Int))]) (A ++ [O.lst (acc ++ [D.tup [p.1, p.2]])]) := by
          have y1 : ∀ A, dEq p.1 (.tup [.str "yes"]) A = _ := y1
          have y2 : ∀ A, dNe p.1 (.tup [.str "no"]) A = _ := y2
          generalize A ++ [O.lst (acc ++ [D.tup [p.1, p.2]])] = Z2 at *
          generalize A ++ [O.lst acc] = Z at *
          generalize A.length = z0 at *
          generalize ((2 * k : Nat) : Int) = u at *
          generalize ((2 * k + 1 : Nat) : Int) = u1 at *
          simp [b_lean_cases_1, i1, i2, y1, y2, c2, hq, ap, -dIx_l, -dAdd_ii]
        have hE : acc ++ [D.tup [p.1, p.2]] ++ pairsD (lnR qs last).1 = acc ++ pairsD (p :: (lnR qs last).1) := by rw [List.append_assoc]; rfl
        rw [hE] at e'
        generalize A ++ [O.lst (acc ++ [D.tup [p.1, p.2]])] = Z2 at *
        generalize A ++ [O.lst (acc ++ pairsD (p :: (lnR qs last).1))] = Z3 at *
        generalize A ++ [O.lst acc] = Z at *
        generalize A.length = z0 at *
        generalize ((2 * k : Nat) : Int) = u at *
        simp [step, e']
theorem lean_cases_ok (hm : m ≤ 10) (hn : n ≤ 20) {ps : List (D × D)} (h4 : ps.length ≤ 4) (hp : ∀ p ∈ ps, Dec m n s p.1 ∧ Dec m n s p.2) (he : Dec m n s e) (A : List O) : m_lean_cases [.lst (flatP ps e)] A = .ok (lnC ps e) A := by
  obtain ⟨x', e'⟩ := lean_loop (A := A) (F := flatP ps e) hm hn ps 0 e [] none (fun j p h => by rw [Nat.zero_add]; exact flatP_get h) (fun p hq => (hp p hq).1) (by simp; omega)
  rw [List.nil_append] at e'
  have e1 := rg_flat (A := A ++ [O.lst []]) (e := e) (ps := ps) (by omega)
  have e3 : ∀ A, dIx (.lst (flatP ps e)) (.int (-1)) A = .ok e A := fun A => ix_last
  have rg : rngC 0 2 ps.length = (List.range' 0 ps.length).map fun i => D.int (0 + (i : Nat) * 2) := by
    unfold rngC
    rw [List.range_eq_range']
  have hq : (A ++ [O.lst (pairsD (lnR ps e).1)])[A.length]? = some (.lst (pairsD (lnR ps e).1)) := get_last
  have hll := lnR_len (ps := ps) (e := e)
  have hl : (pairsD (lnR ps e).1).length < 16777216 := by rw [List.length_map]; omega
  have hmem : ∀ d ∈ pairsD (lnR ps e).1, Pyd (3 * n + 1) ((64 * s + 2 + (64 * s + 2 + 0)) + 3) d := fun d hd => by
    obtain ⟨p, hp1, rfl⟩ := List.mem_map.mp hd
    have := hp p (lnR_mem hp1)
    exact Pyd.tup (Pyl.cons (this.1.py hm) (Pyl.cons (this.2.py hm) Pyl.nil))
  have en := eq_rnil hq (by omega) hmem
  have hem : (pairsD (lnR ps e).1).isEmpty = (lnR ps e).1.isEmpty := by
    cases (lnR ps e).1 <;> rfl
  rw [hem] at en
  have nr2 := (lnR_last (P := Dec m n s) he fun p hq => (hp p hq).2).noR
  have nr1 : (pairsD (lnR ps e).1).all noR = true := List.all_eq_true.mpr fun x hx => by
    obtain ⟨p, hp1, rfl⟩ := List.mem_map.mp hx
    have := hp p (lnR_mem hp1)
    simp [this.1.noR, this.2.noR]
  unfold lnC
  rw [rg] at e1
  generalize (List.range' 0 ps.length).map (fun i => D.int (0 + (i : Nat) * 2)) = RG at *
  generalize flatP ps e = F at *
  generalize (lnR ps e).2 = last at *
  by_cases z : (lnR ps e).1.isEmpty = true
  · rw [z] at en
    rw [if_pos z]
    have ht := trimR_app (A := A) (B := [O.lst (pairsD (lnR ps e).1)]) (d := last) nr2
    generalize pairsD (lnR ps e).1 = Q at *
    generalize A ++ [O.lst Q] = Z at *
    simp [m_lean_cases, b_lean_cases, e1, e3, e', en, ht, -dIx_l, -trimR_app]
  · have z' : (lnR ps e).1.isEmpty = false := by simpa using z
    rw [z'] at en
    rw [if_neg z]
    have ht := trimR_app (A := A) (B := [O.lst (pairsD (lnR ps e).1)]) (d := .tup [.str "cases", .tup (pairsD (lnR ps e).1), last]) (by simp [nr2]; simpa using nr1)
    generalize pairsD (lnR ps e).1 = Q at *
    generalize A ++ [O.lst Q] = Z at *
    simp [m_lean_cases, b_lean_cases, e1, e3, e', en, ht, hq, hl, -dIx_l, -trimR_app]
theorem ow_yn : m_other_word [.str (ynS b)] A = .ok (.str (ynS (!b))) A := by
  cases b
  · exact ow_no
  · exact ow_yes
theorem flat_map {g : D → D} {ps : List (D × D)} : (flatP ps e).map g = flatP (ps.map fun p => (g p.1, g p.2)) (g e) := by
  rw [List.map_append, List.map_flatMap]
  simp [flatP, List.flatMap_map]
theorem lean_ok (hm : m ≤ 10) : ∀ {n s : Nat} {d : D}, n ≤ 20 → Dec m n s d → ∀ {f : Nat}, n ≤ f → ∀ A, m_lean f [d] A = .ok (leanF f d) A
  | n + 1, s, d, hn, h, f, hf, A => by
    obtain ⟨f, rfl⟩ : ∃ g, f = g + 1 := ⟨f - 1, by omega⟩
    have e1 := ip_ok h A
    have hl := inner_le h
    obtain ⟨t0, k2, _, _⟩ := h.kid
    have L1 : ∀ c : Option D, lcD (fun _ => True) (tgN 6) mYes (mCall (m_lean f) [] (mArgs (mVar 6) mArgs0)) [c, none, none, none, none, none, none] (inner d) [] A = .ok ((inner d).map (leanF f)) A := fun c =>
      lcD_map (leanF f) trivial (by omega) fun e he => ⟨_, tgN_e, by simp [lean_ok hm (by omega) (k2 e he) (f := f) (by omega) A]⟩
    have l1 : ((inner d).map (leanF f)).length < 16777216 := by rw [List.length_map]; omega
    rw [lean_s]
    rcases h with ⟨h, h2 | h2 | ⟨k, hk, h2⟩⟩ | ⟨e, t, h1, h2, h3⟩ | ⟨w, es, t, h1, h2, h3, h4, h5⟩ | ⟨ps, e, t, h1, h2, h3, h4, h5, h6⟩
    · subst h2
      have q := reb_yes (A := A) (xs := (inner (.tup [.str "yes"])).map (leanF f))
      rw [ln_yes]
      generalize (inner (.tup [.str "yes"])).map (leanF f) = X at *
      generalize inner (.tup [.str "yes"]) = I at *
      simp [b_lean, e1, L1, l1, q, wipeD]
    · subst h2
      have q := reb_no (A := A) (xs := (inner (.tup [.str "no"])).map (leanF f))
      rw [ln_no]
      generalize (inner (.tup [.str "no"])).map (leanF f) = X at *
      generalize inner (.tup [.str "no"]) = I at *
      simp [b_lean, e1, L1, l1, q, wipeD]
    · subst h2
      have q := reb_wish (A := A) (i := .int k) (xs := (inner (.tup [.str "wish", .int k])).map (leanF f))
      rw [ln_wish]
      generalize (inner (.tup [.str "wish", .int k])).map (leanF f) = X at *
      generalize inner (.tup [.str "wish", .int k]) = I at *
      simp [b_lean, e1, L1, l1, q, wipeD]
    · subst h1
      rw [ln_not]
      rw [inner_not] at e1 L1 l1
      have hd := ln_dec h2 (f := f) (by omega)
      rw [List.map_cons, List.map_nil] at L1
      have two := yn_two hd hm (by omega) A
      have q := reb_not (A := A) (x := e) (y := leanF f e)
      obtain ⟨w, ws, g1, g2, g3⟩ := dec_form hd
      have i0 : dIx (leanF f e) (.int 0) A = .ok (.str (hdS (leanF f e))) A := by rw [g1]; simp [hdS]
      unfold lnN
      generalize leanF f e = y at *
      by_cases z1 : hdS y = ynS true
      · have o := ow_yn (A := A) (b := true)
        rw [← z1] at o
        rw [if_pos (by simpa using z1)]
        rw [decide_eq_true z1, Bool.true_or] at two
        simp [b_lean, e1, L1, two, i0, o, wipeD, -orD_e]
      · rw [decide_eq_false z1, Bool.false_or] at two
        rw [if_neg (by simpa using z1)]
        by_cases z2 : hdS y = ynS false
        · have o := ow_yn (A := A) (b := false)
          rw [← z2] at o
          rw [if_pos (by simpa using z2)]
          rw [decide_eq_true z2] at two
          simp [b_lean, e1, L1, two, i0, o, wipeD, -orD_e]
        · rw [if_neg (by simpa using z2)]
          rw [decide_eq_false z2] at two
          simp [b_lean, e1, L1, two, q, wipeD, -orD_e]
    · subst h1
      rw [ln_ao]
      have hX : ∀ x ∈ es.map (leanF f), Dec m n t x := fun x hx => by
        obtain ⟨e, he, rfl⟩ := List.mem_map.mp hx
        exact ln_dec (h4 e he) (by omega)
      have e1 : m_inner_parts [.tup [.str (if w then "and" else "or"), .tup es]] A = .ok (.lst es) A := by
        rw [e1]; cases w <;> simp
      have hie : inner (.tup [.str (if w then "and" else "or"), .tup es]) = es := by cases w <;> simp
      rw [hie] at L1 l1
      have lX : (es.map (leanF f)).length ≤ 6 := by rw [List.length_map]; exact h3
      generalize es.map (leanF f) = X at *
      have FL : ∀ c1 c2 c3 c4 : Option D, lcD (fun _ => True) (tgN 6) (mBl (m2 dNe (mVar 6) (mVar 4))) (mVar 6) [c1, c2, c3, none, some (.tup [.str (ynS w)]), c4, none] X [] A = .ok (X.filter fun e => !isYn w e) A := fun c1 c2 c3 c4 => by
        rw [lcD_pure (fun e => !isYn w e) (fun e => e) trivial (by simp; omega) fun e he => ?_]
        · simp
        have := (yn_eq (hX e he) hm (by omega) w A).2
        exact ⟨_, tgN_e, by simp [this], fun _ => by simp⟩
      have hR : ∀ x ∈ X.filter fun e => !isYn w e, Dec m n t x := fun x hx => hX x (List.mem_filter.mp hx).1
      have IN := yn_list hR hm (by omega) (!w) A
      have EN := (eq_lnil (A := A) (ds := X.filter fun e => !isYn w e) (by omega) fun x hx => (hR x hx).py hm).1
      have lR : (X.filter fun e => !isYn w e).length < 16777216 := Nat.lt_of_le_of_lt (List.length_filter_le ..) (by omega)
      unfold lnJ
      generalize (X.filter fun e => !isYn w e) = R at *
      have IN : orD (dIn false) (dInD false) (.tup [.str (ynS (!w))]) (.lst R) A = .ok (.bl (R.any (isYn (!w)))) A := IN
      generalize R.any (isYn (!w)) = B at *
      generalize R.isEmpty = C at *
      cases w
      · have e1 : m_inner_parts [.tup [.str "or", .tup es]] A = _ := e1
        have L1 := L1 (some (.tup [.str "or", .tup es]))
        have FL := fun c1 c3 => FL (some (.tup [.str "or", .tup es])) c1 c3 (some (.tup [.str "yes"]))
        have FL : ∀ c1 c3, lcD (fun _ => True) (tgN 6) (mBl (m2 dNe (mVar 6) (mVar 4))) (mVar 6) [some (.tup [.str "or", .tup es]), c1, c3, none, some (.tup [.str "no"]), some (.tup [.str "yes"]), none] X [] A = _ := FL
        have IN : orD (dIn false) (dInD false) (.tup [.str "yes"]) (.lst R) A = _ := IN
        cases B <;> cases C <;> simp [b_lean, e1, L1, l1, FL, IN, EN, lR, wipeD, ynS, -orD_e]
      · have e1 : m_inner_parts [.tup [.str "and", .tup es]] A = _ := e1
        have L1 := L1 (some (.tup [.str "and", .tup es]))
        have FL := fun c1 c3 => FL (some (.tup [.str "and", .tup es])) c1 c3 (some (.tup [.str "no"]))
        have FL : ∀ c1 c3, lcD (fun _ => True) (tgN 6) (mBl (m2 dNe (mVar 6) (mVar 4))) (mVar 6) [some (.tup [.str "and", .tup es]), c1, c3, none, some (.tup [.str "yes"]), some (.tup [.str "no"]), none] X [] A = _ := FL
        have IN : orD (dIn false) (dInD false) (.tup [.str "no"]) (.lst R) A = _ := IN
        cases B <;> cases C <;> simp [b_lean, e1, L1, l1, FL, IN, EN, lR, wipeD, ynS, -orD_e]
    · subst h1
      rw [ln_cases]
      rw [inner_cases] at L1 e1 l1
      have e1 : m_inner_parts [.tup [.str "cases", .tup (ps.map fun p => .tup [p.1, p.2]), e]] A = .ok (.lst (flatP ps e)) A := e1
      have L1 : ∀ c : Option D, lcD (fun _ => True) (tgN 6) mYes (mCall (m_lean f) [] (mArgs (mVar 6) mArgs0)) [c, none, none, none, none, none, none] (flatP ps e) [] A = .ok ((flatP ps e).map (leanF f)) A := L1
      have l1 : ((flatP ps e).map (leanF f)).length < 16777216 := l1
      rw [flat_map] at L1 l1
      have q := lean_cases_ok hm (n := n) (s := t) (by omega) (ps := ps.map fun p => (leanF f p.1, leanF f p.2)) (e := leanF f e) (by rw [List.length_map]; exact h3) (fun p hp => by
        obtain ⟨x, hx, rfl⟩ := List.mem_map.mp hp
        exact ⟨ln_dec (h4 x hx).1 (by omega), ln_dec (h4 x hx).2 (by omega)⟩) (ln_dec h5 (by omega)) A
      generalize flatP (ps.map fun p => (leanF f p.1, leanF f p.2)) (leanF f e) = F2 at *
      generalize flatP ps e = F1 at *
      generalize lnC (ps.map fun p => (leanF f p.1, leanF f p.2)) (leanF f e) = C at *
      simp [b_lean, e1, L1, l1, q, wipeD]
end
end Mb
end
section
set_option Elab.async false
set_option linter.all false
set_option maxRecDepth 100000
set_option maxHeartbeats 4000000
namespace Mb
open PySem PySem.Spec L2 Vi
/-! the answer with one leaf turned -/
def goB (f : D → Int → Bool) : List D → Int → List Bool
  | [], _ => []
  | e :: es, j => f e j :: goB f es (j - ((lv e).length : Int))
def byF : Nat → D → List Bool → Int → Bool
  | 0, _, _, _ => false
  | n + 1, d, r, j => match wishK d with
    | some k => xor (r.getD k false) (decide (j = 0))
    | none => ev (hdS d) (goB (fun e j => byF n e r j) (inner d) j)
def byB (d : D) (r : List Bool) (j : Int) : Bool := byF 20 d r j
@[simp] theorem byB_wish {k : Nat} {r : List Bool} {j : Int} : byB (.tup [.str "wish", .int (k : Int)]) r j = xor (r.getD k false) (decide (j = 0)) := by simp [byB, byF]
end Mb
end
section
set_option Elab.async false
set_option linter.all false
set_option maxRecDepth 100000
set_option maxHeartbeats 4000000
namespace Vi
open PySem PySem.Spec L2
end Vi
namespace Mb
open PySem PySem.Spec L2 Vi
/-- the way down to a leaf: each part, the leaf's number in it, the number of the part that it lies in -/
inductive Path : D → Nat → List (D × Nat × Nat) → D → Prop
  | here {k : Nat} : Path (.tup [.str "wish", .int (k : Int)]) 0 [] (.tup [.str "wish", .int (k : Int)])
  | step {d e w : D} {j' : Nat} {pre post : List D} {tl : List (D × Nat × Nat)} : wishK d = none → inner d = pre ++ e :: post → j' < (lv e).length → Path e j' tl w →
      Path d ((pre.flatMap lv).length + j') ((d, (pre.flatMap lv).length + j', pre.length) :: tl) w
theorem Path.len {m : Nat} {d w : D} {j : Nat} {tl : List (D × Nat × Nat)} (hp : Path d j tl w) : ∀ {n s : Nat}, Dec m n s d → tl.length < n := by
  induction hp with
  | here => intro n s h; cases n with
    | zero => exact h.elim
    | succ n => simp
  | step hw h1 h3 hp ih =>
    intro n s h
    cases n with
    | zero => exact h.elim
    | succ n =>
      obtain ⟨t, ht, _⟩ := h.kid
      have := ih (ht _ (by rw [h1]; simp))
      rw [List.length_cons]; omega
theorem Path.lt {m : Nat} {d w : D} {j : Nat} {tl : List (D × Nat × Nat)} (hp : Path d j tl w) {n s : Nat} (h : Dec m n s d) (hn : n ≤ 20) : j < (lv d).length := by
  cases hp with
  | here => simp
  | step hw h1 h3 hp =>
    rw [lv_nd h hn hw, h1, List.flatMap_append, List.flatMap_cons, List.length_append, List.length_append]
    omega
end Mb
end
section
set_option Elab.async false
set_option linter.all false
set_option maxRecDepth 100000
set_option maxHeartbeats 4000000
namespace Mb
open PySem PySem.Spec L2 Vi
end Mb
end
section
set_option Elab.async false
set_option linter.all false
set_option maxRecDepth 100000
set_option maxHeartbeats 4000000
namespace Mb
open PySem PySem.Spec L2 Vi
section
variable {m n s : Nat} {d e w : D} {A : List O} {r : List Bool}
theorem unflat : ∀ {p : Nat} {xs : List D}, xs.length = 2 * p + 1 → ∃ (ps : List (D × D)) (e : D), xs = (ps.flatMap fun p => [p.1, p.2]) ++ [e] ∧ ps.length = p
  | 0, xs, h => by
    obtain ⟨e, rfl⟩ := List.length_eq_one_iff.mp h
    exact ⟨[], e, rfl, rfl⟩
  | p + 1, xs, h => by
    match xs, h with
    | a :: b :: xs, h =>
      obtain ⟨ps, e, h1, h2⟩ := unflat (p := p) (xs := xs) (by simp only [List.length_cons] at h; omega)
      exact ⟨(a, b) :: ps, e, by rw [h1]; rfl, by rw [List.length_cons, h2]⟩
end
end Mb
end
section
set_option Elab.async false
set_option linter.all false
set_option maxRecDepth 100000
set_option maxHeartbeats 400000
namespace Mb
open PySem PySem.Spec L2 Vi
section
variable {m n s f k t q : Nat} {d e y : D} {A : List O} {r : List Bool} {a b : Bool} {es : List D}
/-! some wishes made yes or no -/
theorem strewn_s (f : Nat) : m_law_strewn (f + 1) = runB 4 (b_law_strewn (m_law_strewn f)) := rfl
theorem strewn_ok {mm : Int} (h0 : 0 < mm) (h1 : mm < 100000) : ∀ {n s : Nat} {d : D}, Dec m n s d → ∀ {f : Nat}, n ≤ f → ∀ {A : List O}, Pl q A → ∃ d' A', m_law_strewn f [.ref q, d, .int mm] A = .ok d' A' ∧ Dec m n s d' ∧ Ps q A A'
  | n + 1, s, d, h, f, hf, A, hP => by
    obtain ⟨f, rfl⟩ : ∃ g, f = g + 1 := ⟨f - 1, by omega⟩
    have e1 := li_ok h A
    have hl := inner_le h
    obtain ⟨t, k2, k3, _⟩ := h.kid
    obtain ⟨ys, A', L, P, hys, hyl⟩ := lcD_st (ok := fun _ => True) (tg := tgN 3) (me := mCall (m_law_strewn f) [] (mArgs (mVar 0) (mArgs (mVar 3) (mArgs (mVar 2) mArgs0)))) (σ := [some (.ref q), some d, some (.int mm), none]) (fun B => Ps q A B) (Dec m n t) (fun _ _ => trivial) (ds := inner d) (acc := []) (A := A) (by simp; omega) (Ps.refl hP) (fun _ h => absurd h List.not_mem_nil) fun e he B hB => by
      obtain ⟨d', B', g1, g2, g3⟩ := strewn_ok h0 h1 (k2 e he) (f := f) (by omega) hB.pl
      exact ⟨_, d', B', tgN_e, by simp [g1], hB.trans g3, g2⟩
    simp only [List.length_nil, Nat.zero_add] at hyl
    have lY : ys.length < 16777216 := by omega
    rw [strewn_s]
    have fin : ∀ (d' : D) (B : List O), b_law_strewn (m_law_strewn f) [some (.ref q), some d, some (.int mm), none] A = .ok (.rt d') B → Ps q A B → Dec m (n + 1) s d' → ∃ d' B, runB 4 (b_law_strewn (m_law_strewn f)) [.ref q, d, .int mm] A = .ok d' B ∧ Dec m (n + 1) s d' ∧ Ps q A B := fun d' B key hB hd => ⟨d', B, by rw [runB_rt rfl key, hB.trim], hd, hB⟩
    have hw := h
    rcases h with ⟨h, h2 | h2 | ⟨k, hk, h2⟩⟩ | ⟨e, t', h1', h2, h3⟩ | ⟨w, es, t', h1', h2, h3, h4, h5⟩ | ⟨ps, e, t', h1', h2, h3, h4, h5, h6⟩
    · subst h2
      have p := put_yes (A := A') (xs := ys)
      refine fin _ A' ?_ P hw
      generalize inner (.tup [.str "yes"]) = I at *
      simp [b_law_strewn, e1, L, lY, p, wipeD]
    · subst h2
      have p := put_no (A := A') (xs := ys)
      refine fin _ A' ?_ P hw
      generalize inner (.tup [.str "no"]) = I at *
      simp [b_law_strewn, e1, L, lY, p, wipeD]
    · subst h2
      obtain ⟨x, A1, x0, x1, f1, P1⟩ := take_p hP h0 (by omega)
      by_cases z : x > 0
      · exact fin _ A1 (by simp [b_law_strewn, f1, z]) P1 hw
      · obtain ⟨x2, A2, y0, y1, f2, P2⟩ := take_p P1.pl (m := 2) (by decide) (by decide)
        rcases (show x2 = 0 ∨ x2 = 1 by omega) with rfl | rfl
        · exact fin (.tup [.str "yes"]) A2 (by simp [b_law_strewn, f1, f2, z]) (P1.trans P2) (.inl ⟨h, .inl rfl⟩)
        · exact fin (.tup [.str "no"]) A2 (by simp [b_law_strewn, f1, f2, z]) (P1.trans P2) (.inl ⟨h, .inr (.inl rfl)⟩)
    · subst h1'
      rw [inner_not] at e1 L hyl k2 k3 hl
      obtain ⟨y, rfl⟩ : ∃ y, ys = [y] := List.length_eq_one_iff.mp (by rw [hyl]; rfl)
      have p := put_not (A := A') (x := e) (y := y)
      refine fin (.tup [.str "not", y]) A' ?_ P (.inr (.inl ⟨y, t, rfl, hys y List.mem_cons_self, by simpa using k3⟩))
      simp [b_law_strewn, e1, L, p, wipeD]
    · subst h1'
      have hie : inner (.tup [.str (if w then "and" else "or"), .tup es]) = es := by cases w <;> simp
      rw [hie] at e1 L hyl k2 k3 hl
      have p := put_ao (A := A') (w := w) (x := .tup es) (xs := ys) lY
      refine fin (.tup [.str (if w then "and" else "or"), .tup ys]) A' ?_ P (.inr (.inr (.inl ⟨w, ys, t, rfl, fun z => h2 (List.eq_nil_of_length_eq_zero (by rw [← hyl, z]; rfl)), by omega, hys, by rw [hyl]; exact k3⟩)))
      cases w
      · have e1 : m_law_inner [.tup [.str "or", .tup es]] A = _ := e1
        have L : lcD _ _ _ _ [some (.ref q), some (.tup [.str "or", .tup es]), some (.int mm), none] es [] A = _ := L
        have p : m_law_put [.tup [.str "or", .tup es], .lst ys] A' = _ := p
        simp [b_law_strewn, e1, L, lY, p, wipeD]
      · have e1 : m_law_inner [.tup [.str "and", .tup es]] A = _ := e1
        have L : lcD _ _ _ _ [some (.ref q), some (.tup [.str "and", .tup es]), some (.int mm), none] es [] A = _ := L
        have p : m_law_put [.tup [.str "and", .tup es], .lst ys] A' = _ := p
        simp [b_law_strewn, e1, L, lY, p, wipeD]
    · subst h1'
      rw [inner_cases] at e1 L hyl k2 k3 hl
      have hyl2 : ys.length = 2 * ps.length + 1 := by rw [hyl]; exact flatP_len
      obtain ⟨qs, e', rfl, hq⟩ := unflat hyl2
      have p := put_cases (A := A') (x := .tup (ps.map fun p => .tup [p.1, p.2])) (y := e) (e := e') (ps := qs) (by omega)
      refine fin (.tup [.str "cases", .tup (pairsD qs), e']) A' ?_ P (.inr (.inr (.inr ⟨qs, e', t, rfl, fun z => h2 (List.eq_nil_of_length_eq_zero (by rw [← hq, z]; rfl)), by omega, fun p hp => ⟨hys _ ?_, hys _ ?_⟩, hys _ ?_, by
        have : ((ps.flatMap fun p => [p.1, p.2]) ++ [e]).length = 2 * ps.length + 1 := flatP_len
        rw [this] at k3
        rw [hq]; exact k3⟩)))
      · generalize (ps.flatMap fun p => [p.1, p.2]) ++ [e] = I at *
        have p : m_law_put [.tup [.str "cases", .tup (ps.map fun p => .tup [p.1, p.2]), e], .lst ((qs.flatMap fun p => [p.1, p.2]) ++ [e'])] A' = _ := p
        generalize (qs.flatMap fun p => [p.1, p.2]) ++ [e'] = Y at *
        generalize (ps.map fun p => D.tup [p.1, p.2]) = PP at *
        simp [b_law_strewn, e1, L, lY, p, wipeD]
      · exact List.mem_append.mpr (.inl (List.mem_flatMap.mpr ⟨p, hp, by simp⟩))
      · exact List.mem_append.mpr (.inl (List.mem_flatMap.mpr ⟨p, hp, by simp⟩))
      · exact List.mem_append.mpr (.inr (by simp))
end
end Mb
end
section
set_option Elab.async false
set_option linter.all false
set_option maxRecDepth 100000
set_option maxHeartbeats 400000
namespace Mb
open PySem PySem.Spec L2 Vi
section
variable {m n s f g k t q : Nat} {d e y : D} {A : List O} {r : List Bool} {a b : Bool} {es : List D}
/-! the text's length by the true size -/
theorem sz_s {d : D} : szI (f + 1) d = 1 + ((inner d).map (szI f)).sum := rfl
theorem sz_st : ∀ {n s : Nat} {d : D}, Dec m n s d → ∀ {f g : Nat}, n ≤ f → n ≤ g → szI f d = szI g d
  | n + 1, s, d, h, f, g, hf, hg => by
    obtain ⟨f, rfl⟩ : ∃ k, f = k + 1 := ⟨f - 1, by omega⟩
    obtain ⟨g, rfl⟩ : ∃ k, g = k + 1 := ⟨g - 1, by omega⟩
    obtain ⟨t, h2, _, _⟩ := h.kid
    have q : ∀ e ∈ inner d, szI f e = szI g e := fun e he => sz_st (h2 e he) (by omega) (by omega)
    rw [sz_s, sz_s, List.map_congr_left q]
theorem sz_node (h : Dec m (n + 1) s d) (hn : n + 1 ≤ 16) : szI 16 d = 1 + ((inner d).map (szI 16)).sum := by
  obtain ⟨t, h2, _, _⟩ := h.kid
  have q : ∀ e ∈ inner d, szI 15 e = szI 16 e := fun e he => sz_st (h2 e he) (by omega) (by omega)
  rw [sz_s, List.map_congr_left q]
/-! ands within ands, ors within ors -/
def jnP (w : Str) (x : D) : List D := match x with
  | .tup [.str v, .tup es] => if v = w then es else [x]
  | x => [x]
def jnW (w : Str) (xs : List D) : List D := xs.flatMap (jnP w)
def jnL (w : Str) (xs : List D) : List D := if (jnW w xs).length ≤ 6 then jnW w xs else xs
def jnJ (w : Str) (xs : List D) : D := match jnL w xs with
  | [x] => x
  | P => .tup [.str w, .tup P]
def joinF : Nat → D → D
  | 0, d => d
  | n + 1, d => match d with
    | .tup [.str w, x] => if w = ("not" : Str) then .tup [.str "not", joinF n x] else
        match x with
        | .tup es => jnJ w (es.map (joinF n))
        | _ => d
    | .tup [.str w, .tup rs, e] => .tup [.str w, .tup (rs.map (pairF (joinF n) (joinF n))), joinF n e]
    | d => d
abbrev aoS (w : Bool) : Str := if w then "and" else "or"
theorem jn_yes : joinF (n + 1) (.tup [.str "yes"]) = .tup [.str "yes"] := rfl
theorem jn_no : joinF (n + 1) (.tup [.str "no"]) = .tup [.str "no"] := rfl
theorem jn_wish {i : Int} : joinF (n + 1) (.tup [.str "wish", .int i]) = .tup [.str "wish", .int i] := by simp [joinF]
theorem jn_not {x : D} : joinF (n + 1) (.tup [.str "not", x]) = .tup [.str "not", joinF n x] := by simp [joinF]
theorem jn_ao {w : Bool} : joinF (n + 1) (.tup [.str (aoS w), .tup es]) = jnJ (aoS w) (es.map (joinF n)) := by cases w <;> simp [joinF, aoS]
theorem jn_cases {ps : List (D × D)} : joinF (n + 1) (.tup [.str "cases", .tup (ps.map fun p => .tup [p.1, p.2]), e]) = .tup [.str "cases", .tup (ps.map fun p => .tup [joinF n p.1, joinF n p.2]), joinF n e] := by
  simp [joinF, pairF, Function.comp_def]
/-- what a part gives to the wide list -/
theorem jnP_ok {w : Bool} (hm : m ≤ 10) (hn : n ≤ 16) (h : Dec m n s y) : jnP (aoS w) y ≠ [] ∧ (∀ e ∈ jnP (aoS w) y, Dec m n s e) ∧ ((jnP (aoS w) y).map (szI 16)).sum ≤ szI 16 y ∧ (hdS y ≠ aoS w → jnP (aoS w) y = [y]) ∧ (hdS y = aoS w → y = .tup [.str (aoS w), .tup (jnP (aoS w) y)] ∧ (jnP (aoS w) y).length ≤ 6) := by
  cases n with
  | zero => exact h.elim
  | succ n =>
    have hs := sz_node h hn
    have hk := h
    have single : ∀ (P : Prop), jnP (aoS w) y = [y] → (hdS y = aoS w → P) → hdS y ≠ aoS w → jnP (aoS w) y ≠ [] ∧ (∀ e ∈ jnP (aoS w) y, Dec m (n + 1) s e) ∧ ((jnP (aoS w) y).map (szI 16)).sum ≤ szI 16 y ∧ (hdS y ≠ aoS w → jnP (aoS w) y = [y]) ∧ (hdS y = aoS w → P) := fun P q1 q2 q3 => by
      rw [q1]
      exact ⟨by simp, by simpa using h, by simp, fun _ => rfl, q2⟩
    rcases h with ⟨h, h2 | h2 | ⟨k, _, h2⟩⟩ | ⟨e, t, h1, h2, h3⟩ | ⟨v, es, t, h1, h2, h3, h4, h5⟩ | ⟨ps, e, t, h1, h2, h3, h4, h5, h6⟩
    · subst h2
      have hne : hdS (.tup [.str "yes"]) ≠ aoS w := by cases w <;> simp [hdS, aoS]
      exact single _ rfl (fun z => absurd z hne) hne
    · subst h2
      have hne : hdS (.tup [.str "no"]) ≠ aoS w := by cases w <;> simp [hdS, aoS]
      exact single _ rfl (fun z => absurd z hne) hne
    · subst h2
      have hne : hdS (.tup [.str "wish", .int k]) ≠ aoS w := by cases w <;> simp [hdS, aoS]
      exact single _ rfl (fun z => absurd z hne) hne
    · subst h1
      have hne : hdS (.tup [.str "not", e]) ≠ aoS w := by cases w <;> simp [hdS, aoS]
      refine single _ ?_ (fun z => absurd z hne) hne
      unfold jnP
      split
      · rename_i v es q
        cases q
        rw [if_neg (by cases w <;> simp [aoS])]
      · rfl
    · subst h1
      by_cases hv : v = w
      · subst hv
        have q : jnP (aoS v) (.tup [.str (if v then "and" else "or"), .tup es]) = es := if_pos rfl
        have hie : inner (.tup [.str (if v then "and" else "or"), .tup es]) = es := by cases v <;> simp
        rw [hie] at hs
        rw [q]
        refine ⟨h2, fun e he => (h4 e he).mono (by omega) ?_, by omega, fun z => absurd rfl z, fun _ => ⟨rfl, h3⟩⟩
        have : 1 ≤ es.length := List.length_pos_of_mem he
        have := Nat.mul_le_mul_right t this
        omega
      · have hne : hdS (.tup [.str (if v then "and" else "or"), .tup es]) ≠ aoS w := by cases v <;> cases w <;> simp [hdS, aoS] at hv ⊢
        exact single _ (if_neg hne) (fun z => absurd z hne) hne
    · subst h1
      have hne : hdS (.tup [.str "cases", .tup (ps.map fun p => .tup [p.1, p.2]), e]) ≠ aoS w := by cases w <;> simp [hdS, aoS]
      exact single _ rfl (fun z => absurd z hne) hne
end
end Mb
end
section
set_option Elab.async false
set_option linter.all false
set_option maxRecDepth 100000
set_option maxHeartbeats 400000
namespace Mb
open PySem PySem.Spec L2 Vi
section
variable {m n s f g k t q S : Nat} {d e y : D} {A : List O} {r : List Bool} {a b w : Bool} {es xs : List D}
theorem hd_ixM (h : Dec m n s y) (A : List O) : dIx y (.int 0) A = .ok (.str (hdS y)) A := by
  obtain ⟨w, es, rfl, e2, _⟩ := dec_form h
  rw [e2]; simp
theorem common : ∀ {l : List D}, (∀ e ∈ l, ∃ S, Dec m n S e) → ∃ S, ∀ e ∈ l, Dec m n S e
  | [], _ => ⟨0, fun _ h => absurd h List.not_mem_nil⟩
  | e :: l, h => by
    obtain ⟨S1, h1⟩ := h e List.mem_cons_self
    obtain ⟨S2, h2⟩ := common (l := l) fun x hx => h x (List.mem_cons_of_mem _ hx)
    refine ⟨max S1 S2, fun x hx => ?_⟩
    rcases List.mem_cons.mp hx with rfl | hx
    · exact h1.mono (Nat.le_refl _) (by omega)
    · exact (h2 x hx).mono (Nat.le_refl _) (by omega)
theorem jnW_c : jnW (aoS w) (y :: xs) = jnP (aoS w) y ++ jnW (aoS w) xs := List.flatMap_cons ..
theorem jnW_mem (hm : m ≤ 10) (hn : n ≤ 16) (h : ∀ x ∈ xs, Dec m n S x) : ∀ e ∈ jnW (aoS w) xs, Dec m n S e := fun e he => by
  obtain ⟨x, hx, he⟩ := List.mem_flatMap.mp he
  exact (jnP_ok hm hn (h x hx)).2.1 e he
theorem jnW_sum (hm : m ≤ 10) (hn : n ≤ 16) : ∀ {xs : List D}, (∀ x ∈ xs, Dec m n S x) → ((jnW (aoS w) xs).map (szI 16)).sum ≤ (xs.map (szI 16)).sum
  | [], _ => Int.le_refl _
  | x :: xs, h => by
    have h1 := (jnP_ok (w := w) hm hn (h x List.mem_cons_self)).2.2.1
    have h2 := jnW_sum hm hn (xs := xs) fun y hy => h y (List.mem_cons_of_mem _ hy)
    rw [jnW_c, List.map_append, List.sum_append, List.map_cons, List.sum_cons]
    omega
theorem jnP_all (hm : m ≤ 10) (hr : r.length = m) (hn : n ≤ 15) (h : Dec m n S y) : (jnP (aoS true) y).all (fun e => ansB e r) = ansB y r := by
  obtain ⟨p1, p2, _, p4, p5⟩ := jnP_ok (w := true) hm (by omega) h
  by_cases z : hdS y = aoS true
  · obtain ⟨q1, q2⟩ := p5 z
    have := ansB_and hm hr hn p1 q2 p2
    generalize jnP (aoS true) y = P at *
    rw [q1]
    exact this.symm
  · rw [p4 z]; simp
theorem jnP_any (hm : m ≤ 10) (hr : r.length = m) (hn : n ≤ 15) (h : Dec m n S y) : (jnP (aoS false) y).any (fun e => ansB e r) = ansB y r := by
  obtain ⟨p1, p2, _, p4, p5⟩ := jnP_ok (w := false) hm (by omega) h
  by_cases z : hdS y = aoS false
  · obtain ⟨q1, q2⟩ := p5 z
    have := ansB_or hm hr hn p1 q2 p2
    generalize jnP (aoS false) y = P at *
    rw [q1]
    exact this.symm
  · rw [p4 z]; simp
theorem jnW_all (hm : m ≤ 10) (hr : r.length = m) (hn : n ≤ 15) : ∀ {xs : List D}, (∀ x ∈ xs, Dec m n S x) → (jnW (aoS true) xs).all (fun e => ansB e r) = xs.all fun e => ansB e r
  | [], _ => rfl
  | x :: xs, h => by
    rw [jnW_c, List.all_append, List.all_cons, jnP_all hm hr hn (h x List.mem_cons_self), jnW_all hm hr hn fun y hy => h y (List.mem_cons_of_mem _ hy)]
theorem jnW_any (hm : m ≤ 10) (hr : r.length = m) (hn : n ≤ 15) : ∀ {xs : List D}, (∀ x ∈ xs, Dec m n S x) → (jnW (aoS false) xs).any (fun e => ansB e r) = xs.any fun e => ansB e r
  | [], _ => rfl
  | x :: xs, h => by
    rw [jnW_c, List.any_append, List.any_cons, jnP_any hm hr hn (h x List.mem_cons_self), jnW_any hm hr hn fun y hy => h y (List.mem_cons_of_mem _ hy)]
theorem jnW_ne (hm : m ≤ 10) (hn : n ≤ 16) (h0 : xs ≠ []) (h : ∀ x ∈ xs, Dec m n S x) : jnW (aoS w) xs ≠ [] := by
  cases xs with
  | nil => exact absurd rfl h0
  | cons x xs =>
    have := (jnP_ok (w := w) hm hn (h x List.mem_cons_self)).1
    rw [jnW_c]
    intro z
    exact this (List.append_eq_nil_iff.mp z).1
structure JnL (m n S : Nat) (w : Bool) (xs L : List D) : Prop where
  ne : L ≠ []
  mem : ∀ e ∈ L, Dec m n S e
  len : L.length ≤ 6
  sum : (L.map (szI 16)).sum ≤ (xs.map (szI 16)).sum
  al : ∀ r : List Bool, r.length = m → w = true → L.all (fun e => ansB e r) = xs.all fun e => ansB e r
  an : ∀ r : List Bool, r.length = m → w = false → L.any (fun e => ansB e r) = xs.any fun e => ansB e r
theorem jnL_ok (hm : m ≤ 10) (hn : n ≤ 15) (h0 : xs ≠ []) (hl : xs.length ≤ 6) (h : ∀ x ∈ xs, Dec m n S x) : JnL m n S w xs (jnL (aoS w) xs) := by
  unfold jnL
  split
  · rename_i z
    exact ⟨jnW_ne hm (by omega) h0 h, jnW_mem hm (by omega) h, z, jnW_sum hm (by omega) h, fun r hr e => by subst e; exact jnW_all hm hr hn h, fun r hr e => by subst e; exact jnW_any hm hr hn h⟩
  · exact ⟨h0, h, hl, Int.le_refl _, fun _ _ _ => rfl, fun _ _ _ => rfl⟩
theorem jnJ_ok (hm : m ≤ 10) (hn : n ≤ 15) (h0 : xs ≠ []) (hl : xs.length ≤ 6) (h : ∀ x ∈ xs, Dec m n S x) : (∃ S', Dec m (n + 1) S' (jnJ (aoS w) xs)) ∧ szI 16 (jnJ (aoS w) xs) ≤ 1 + (xs.map (szI 16)).sum ∧ ∀ r : List Bool, r.length = m → ansB (jnJ (aoS w) xs) r = if w then xs.all fun e => ansB e r else xs.any fun e => ansB e r := by
  have J := jnL_ok (w := w) hm hn h0 hl h
  unfold jnJ
  generalize jnL (aoS w) xs = L at *
  have many : Dec m (n + 1) (L.length * S + 1) (.tup [.str (aoS w), .tup L]) := .inr (.inr (.inl ⟨w, L, S, rfl, J.ne, J.len, J.mem, Nat.le_refl _⟩))
  have hie : inner (.tup [.str (aoS w), .tup L]) = L := by cases w <;> simp [aoS]
  have hsz := sz_node many (by omega)
  rw [hie] at hsz
  have hs := J.sum
  have hans : ∀ r : List Bool, r.length = m → ansB (.tup [.str (aoS w), .tup L]) r = if w then xs.all fun e => ansB e r else xs.any fun e => ansB e r := fun r hr => by
    have A1 := ansB_and hm hr hn J.ne J.len J.mem
    have A2 := ansB_or hm hr hn J.ne J.len J.mem
    cases w
    · exact A2.trans (J.an r hr rfl)
    · exact A1.trans (J.al r hr rfl)
  match L, J with
  | [], J => exact absurd rfl J.ne
  | [x], J =>
    have hx := J.mem x List.mem_cons_self
    refine ⟨⟨S, hx.mono (by omega) (Nat.le_refl _)⟩, ?_, fun r hr => ?_⟩
    · simp only [List.map_cons, List.map_nil, List.sum_cons, List.sum_nil] at hs
      show szI 16 x ≤ _
      omega
    · show ansB x r = _
      cases w
      · have := J.an r hr rfl
        rw [List.any_cons, List.any_nil, Bool.or_false] at this
        exact this
      · have := J.al r hr rfl
        rw [List.all_cons, List.all_nil, Bool.and_true] at this
        exact this
  | x :: x2 :: L, J =>
    exact ⟨⟨_, many⟩, by show szI 16 (.tup [.str (aoS w), .tup (x :: x2 :: L)]) ≤ _; omega, hans⟩
theorem sum_le {g h : D → Int} : ∀ {l : List D}, (∀ e ∈ l, g e ≤ h e) → (l.map g).sum ≤ (l.map h).sum
  | [], _ => Int.le_refl _
  | e :: l, q => by
    have h1 := q e List.mem_cons_self
    have h2 := sum_le (l := l) fun x hx => q x (List.mem_cons_of_mem _ hx)
    simp only [List.map_cons, List.sum_cons]
    omega
theorem join_ok (hm : m ≤ 10) : ∀ {n s : Nat} {d : D}, Dec m n s d → n ≤ 15 → ∀ {f : Nat}, n ≤ f → (∃ S, Dec m n S (joinF f d)) ∧ szI 16 (joinF f d) ≤ szI 16 d ∧ ∀ r : List Bool, r.length = m → ansB (joinF f d) r = ansB d r
  | n + 1, s, d, h, hn, f, hf => by
    obtain ⟨f, rfl⟩ : ∃ g, f = g + 1 := ⟨f - 1, by omega⟩
    have hs := sz_node h (by omega)
    have hh := h
    rcases h with ⟨h, h2 | h2 | ⟨k, hk, h2⟩⟩ | ⟨e, t, h1, h2, h3⟩ | ⟨w, es, t, h1, h2, h3, h4, h5⟩ | ⟨ps, e, t, h1, h2, h3, h4, h5, h6⟩
    · subst h2
      rw [jn_yes]
      exact ⟨⟨s, hh⟩, Int.le_refl _, fun _ _ => rfl⟩
    · subst h2
      rw [jn_no]
      exact ⟨⟨s, hh⟩, Int.le_refl _, fun _ _ => rfl⟩
    · subst h2
      rw [jn_wish]
      exact ⟨⟨s, hh⟩, Int.le_refl _, fun _ _ => rfl⟩
    · subst h1
      obtain ⟨⟨S, j1⟩, j2, j3⟩ := join_ok hm h2 (by omega) (f := f) (by omega)
      have dn : Dec m (n + 1) (S + 1) (.tup [.str "not", joinF f e]) := .inr (.inl ⟨_, S, rfl, j1, Nat.le_refl _⟩)
      have hs2 := sz_node dn (by omega)
      rw [jn_not]
      rw [inner_not] at hs hs2
      simp only [List.map_cons, List.map_nil, List.sum_cons, List.sum_nil] at hs hs2
      refine ⟨⟨_, dn⟩, by omega, fun r hr => ?_⟩
      rw [ansB_not hm hr (by omega) j1, ansB_not hm hr (by omega) h2, j3 r hr]
    · subst h1
      have ih := fun e he => join_ok hm (h4 e he) (by omega) (f := f) (by omega)
      obtain ⟨S, hS⟩ := common (l := es.map (joinF f)) (m := m) (n := n) fun x hx => by
        obtain ⟨e, he, rfl⟩ := List.mem_map.mp hx
        exact (ih e he).1
      obtain ⟨j1, j2, j3⟩ := jnJ_ok (w := w) hm (by omega) (xs := es.map (joinF f)) (by simpa using h2) (by rw [List.length_map]; exact h3) hS
      have hie : inner (.tup [.str (if w then "and" else "or"), .tup es]) = es := by cases w <;> simp
      rw [hie] at hs
      have q : joinF (f + 1) (.tup [.str (if w then "and" else "or"), .tup es]) = jnJ (aoS w) (es.map (joinF f)) := jn_ao
      rw [q]
      have le : ((es.map (joinF f)).map (szI 16)).sum ≤ (es.map (szI 16)).sum := by
        rw [List.map_map]
        exact sum_le fun e he => (ih e he).2.1
      refine ⟨j1, by omega, fun r hr => ?_⟩
      rw [j3 r hr]
      have A3 := ansB_and hm hr (by omega) h2 h3 h4
      have A4 := ansB_or hm hr (by omega) h2 h3 h4
      have ih2 : ∀ e ∈ es, ansB (joinF f e) r = ansB e r := fun e he => (ih e he).2.2 r hr
      have B1 : (es.map (joinF f)).all (fun e => ansB e r) = es.all fun e => ansB e r := by
        rw [List.all_map, Bool.eq_iff_iff, List.all_eq_true, List.all_eq_true]
        exact ⟨fun z e he => by rw [← ih2 e he]; exact z e he, fun z e he => by show ansB (joinF f e) r = true; rw [ih2 e he]; exact z e he⟩
      have B2 : (es.map (joinF f)).any (fun e => ansB e r) = es.any fun e => ansB e r := by
        rw [List.any_map, Bool.eq_iff_iff, List.any_eq_true, List.any_eq_true]
        exact ⟨fun ⟨e, he, z⟩ => ⟨e, he, by rw [← ih2 e he]; exact z⟩, fun ⟨e, he, z⟩ => ⟨e, he, by show ansB (joinF f e) r = true; rw [ih2 e he]; exact z⟩⟩
      rw [B1, B2]
      cases w
      · exact A4.symm
      · exact A3.symm
    · subst h1
      have ihp := fun p hp => (⟨join_ok hm (h4 p hp).1 (by omega) (f := f) (by omega), join_ok hm (h4 p hp).2 (by omega) (f := f) (by omega)⟩ : _ ∧ _)
      obtain ⟨⟨S3, k1⟩, k2, k3⟩ := join_ok hm h5 (by omega) (f := f) (by omega)
      obtain ⟨S1, hS1⟩ := common (l := ps.flatMap fun p => [joinF f p.1, joinF f p.2]) (m := m) (n := n) fun x hx => by
        obtain ⟨p, hp, hx⟩ := List.mem_flatMap.mp hx
        simp only [List.mem_cons, List.not_mem_nil, or_false] at hx
        rcases hx with rfl | rfl
        · exact (ihp p hp).1.1
        · exact (ihp p hp).2.1
      have hdp : ∀ p ∈ ps.map fun p => (joinF f p.1, joinF f p.2), Dec m n (S1 + S3) p.1 ∧ Dec m n (S1 + S3) p.2 := fun p hp => by
        obtain ⟨x, hx, rfl⟩ := List.mem_map.mp hp
        exact ⟨(hS1 _ (List.mem_flatMap.mpr ⟨x, hx, by simp⟩)).mono (Nat.le_refl _) (by omega), (hS1 _ (List.mem_flatMap.mpr ⟨x, hx, by simp⟩)).mono (Nat.le_refl _) (by omega)⟩
      have he3 : Dec m n (S1 + S3) (joinF f e) := k1.mono (Nat.le_refl _) (by omega)
      have hpe : (ps.map fun p => D.tup [joinF f p.1, joinF f p.2]) = pairsD (ps.map fun p => (joinF f p.1, joinF f p.2)) := by rw [pairsD, List.map_map]; rfl
      rw [jn_cases, hpe]
      have hne : (ps.map fun p => (joinF f p.1, joinF f p.2)) ≠ [] := by simpa using h2
      have hle : (ps.map fun p => (joinF f p.1, joinF f p.2)).length ≤ 4 := by rw [List.length_map]; exact h3
      have dn : Dec m (n + 1) ((2 * (ps.map fun p => (joinF f p.1, joinF f p.2)).length + 1) * (S1 + S3) + 1) (.tup [.str "cases", .tup (pairsD (ps.map fun p => (joinF f p.1, joinF f p.2))), joinF f e]) := .inr (.inr (.inr ⟨_, _, S1 + S3, rfl, hne, hle, hdp, he3, Nat.le_refl _⟩))
      have hs20 := sz_node dn (by omega)
      rw [inner_cases] at hs
      have hs2 : _ = 1 + ((inner (.tup [.str "cases", .tup ((ps.map fun p => (joinF f p.1, joinF f p.2)).map fun p => .tup [p.1, p.2]), joinF f e])).map (szI 16)).sum := hs20
      rw [inner_cases] at hs2
      have le : (((ps.map fun p => (joinF f p.1, joinF f p.2)).flatMap fun p => [p.1, p.2]).map (szI 16)).sum ≤ ((ps.flatMap fun p => [p.1, p.2]).map (szI 16)).sum := by
        have : ((ps.map fun p => (joinF f p.1, joinF f p.2)).flatMap fun p => [p.1, p.2]) = (ps.flatMap fun p => [p.1, p.2]).map (joinF f) := by
          rw [List.flatMap_map, List.map_flatMap]; rfl
        rw [this, List.map_map]
        refine sum_le fun x hx => ?_
        obtain ⟨p, hp, hx⟩ := List.mem_flatMap.mp hx
        simp only [List.mem_cons, List.not_mem_nil, or_false] at hx
        rcases hx with rfl | rfl
        · exact (ihp p hp).1.2.1
        · exact (ihp p hp).2.2.1
      rw [List.map_append, List.sum_append] at hs hs2
      simp only [List.map_cons, List.map_nil, List.sum_cons, List.sum_nil] at hs hs2
      refine ⟨⟨_, dn⟩, by omega, fun r hr => ?_⟩
      have A1 := ansB_cases hm hr (by omega) hne hle hdp he3
      have A2 := ansB_cases hm hr (by omega) h2 h3 h4 h5
      refine A1.trans ?_
      rw [A2]
      have i3 := k3 r hr
      clear hs20; clear A1 A2 hne hle hdp dn hs hs2 hpe le hS1 h2 h3 h6 hh
      induction ps with
      | nil => simp [i3]
      | cons p ps ih =>
        have j1 := (ihp p List.mem_cons_self).1.2.2 r hr
        have j2 := (ihp p List.mem_cons_self).2.2.2 r hr
        rw [List.map_cons, List.find?_cons, List.find?_cons]
        simp only [j1]
        cases ansB p.1 r
        · exact ih (fun q hq => h4 q (List.mem_cons_of_mem _ hq)) (fun q hq => ihp q (List.mem_cons_of_mem _ hq))
        · exact j2
end
end Mb
end
section
set_option Elab.async false
set_option linter.all false
set_option maxRecDepth 100000
set_option maxHeartbeats 400000
namespace Mb
open PySem PySem.Spec L2 Vi
section
variable {m n s f g k t q S : Nat} {d e y : D} {A : List O} {r : List Bool} {a b w : Bool} {es xs : List D}
theorem joined_s (f : Nat) : m_joined (f + 1) = runB 4 (b_joined (m_joined f)) := rfl
theorem join_loop {R : List D → List O → Vi.R D} {V : Option D} {T : D} (hm : m ≤ 10) (hn : n ≤ 16) : ∀ (l acc : List D) (x : Option D), (∀ y ∈ l, Dec m n S y) → acc.length + 6 * l.length ≤ 1000 →
    ∃ x', forD (fun _ => True) (tgN 3) (b_joined_1 R) l [some (.tup [.str (aoS w), T]), V, some (.ref A.length), x] (A ++ [.lst acc]) = .ok (.nx [some (.tup [.str (aoS w), T]), V, some (.ref A.length), x']) (A ++ [.lst (acc ++ jnW (aoS w) l)])
  | [], acc, x, _, _ => ⟨x, by simp [forD, jnW]⟩
  | y :: l, acc, x, h, hl => by
    simp only [List.length_cons] at hl
    have hy := h y List.mem_cons_self
    obtain ⟨p1, p2, _, p4, p5⟩ := jnP_ok (w := w) hm hn hy
    have lp : (jnP (aoS w) y).length ≤ 6 := by
      by_cases z : hdS y = aoS w
      · exact (p5 z).2
      · rw [p4 z]; simp
    obtain ⟨x', e'⟩ := join_loop (R := R) (V := V) (T := T) hm hn l (acc ++ jnP (aoS w) y) (some y) (fun z hz => h z (List.mem_cons_of_mem _ hz)) (by rw [List.length_append]; omega)
    refine ⟨x', ?_⟩
    have i0 := fun A => hd_ixM hy A
    have hq : (A ++ [O.lst acc])[A.length]? = some (.lst acc) := get_last
    have step : b_joined_1 R [some (.tup [.str (aoS w), T]), V, some (.ref A.length), some y] (A ++ [O.lst acc]) = .ok (.nx [some (.tup [.str (aoS w), T]), V, some (.ref A.length), some y]) (A ++ [O.lst (acc ++ jnP (aoS w) y)]) := by
      by_cases z : hdS y = aoS w
      · obtain ⟨q1, _⟩ := p5 z
        have i1 : ∀ A, dIx y (.int 1) A = .ok (.tup (jnP (aoS w) y)) A := fun A => by
          generalize jnP (aoS w) y = P at *
          rw [q1]; simp
        rw [z] at i0
        have ex : fExtendX (.ref A.length) [.tup (jnP (aoS w) y)] (A ++ [O.lst acc]) = .ok .non (A ++ [O.lst (acc ++ jnP (aoS w) y)]) := by
          rw [fExtendX_t hq (by omega), set_last]
        generalize jnP (aoS w) y = P at *
        generalize A ++ [O.lst (acc ++ P)] = Z2 at *
        generalize A ++ [O.lst acc] = Z at *
        generalize A.length = z0 at *
        generalize aoS w = W at *
        simp [b_joined_1, i0, i1, hq, ex]
      · have q1 := p4 z
        have ex : fExtendX (.ref A.length) [.lst [y]] (A ++ [O.lst acc]) = .ok .non (A ++ [O.lst (acc ++ jnP (aoS w) y)]) := by
          rw [fExtendX_l, fExtend_e (es := [y]) hq rfl (by simp; omega), set_last, q1]
        generalize jnP (aoS w) y = P at *
        generalize A ++ [O.lst (acc ++ P)] = Z2 at *
        generalize A ++ [O.lst acc] = Z at *
        generalize A.length = z0 at *
        generalize aoS w = W at *
        simp [b_joined_1, i0, z, hq, ex, -fExtendX_l]
    rw [forD, if_pos trivial, jnW_c, ← List.append_assoc]
    generalize A ++ [O.lst (acc ++ jnP (aoS w) y ++ jnW (aoS w) l)] = Z3 at *
    generalize A ++ [O.lst (acc ++ jnP (aoS w) y)] = Z2 at *
    generalize A ++ [O.lst acc] = Z at *
    generalize A.length = z0 at *
    simp [step, e']
theorem dec_noRs (h : ∀ x ∈ xs, Dec m n S x) : xs.all noR = true := List.all_eq_true.mpr fun x hx => (h x hx).noR
theorem jnW_len (hm : m ≤ 10) (hn : n ≤ 16) : ∀ {xs : List D}, (∀ x ∈ xs, Dec m n S x) → (jnW (aoS w) xs).length ≤ 6 * xs.length
  | [], _ => Nat.le_refl _
  | y :: l, h => by
    obtain ⟨p1, p2, _, p4, p5⟩ := jnP_ok (w := w) hm hn (h y List.mem_cons_self)
    have lp : (jnP (aoS w) y).length ≤ 6 := by
      by_cases z : hdS y = aoS w
      · exact (p5 z).2
      · rw [p4 z]; simp
    have ih := jnW_len hm hn (xs := l) fun z hz => h z (List.mem_cons_of_mem _ hz)
    rw [jnW_c, List.length_append, List.length_cons]
    omega
theorem joined_ok (hm : m ≤ 10) : ∀ {n s : Nat} {d : D}, Dec m n s d → n ≤ 15 → ∀ {f : Nat}, n ≤ f → ∀ A, m_joined f [d] A = .ok (joinF f d) A
  | n + 1, s, d, h, hn, f, hf, A => by
    obtain ⟨f, rfl⟩ : ∃ g, f = g + 1 := ⟨f - 1, by omega⟩
    have e1 := ip_ok h A
    have hl := inner_le h
    obtain ⟨t0, k2, _, _⟩ := h.kid
    have L1 : ∀ c : Option D, lcD (fun _ => True) (tgN 3) mYes (mCall (m_joined f) [] (mArgs (mVar 3) mArgs0)) [c, none, none, none] (inner d) [] A = .ok ((inner d).map (joinF f)) A := fun c =>
      lcD_map (joinF f) trivial (by omega) fun e he => ⟨_, tgN_e, by simp [joined_ok hm (k2 e he) (by omega) (f := f) (by omega) A]⟩
    have l1 : ((inner d).map (joinF f)).length < 16777216 := by rw [List.length_map]; omega
    rw [joined_s]
    rcases h with ⟨h, h2 | h2 | ⟨k, hk, h2⟩⟩ | ⟨e, t, h1, h2, h3⟩ | ⟨w, es, t, h1, h2, h3, h4, h5⟩ | ⟨ps, e, t, h1, h2, h3, h4, h5, h6⟩
    · subst h2
      have q := reb_yes (A := A) (xs := (inner (.tup [.str "yes"])).map (joinF f))
      rw [jn_yes]
      generalize (inner (.tup [.str "yes"])).map (joinF f) = X at *
      generalize inner (.tup [.str "yes"]) = I at *
      simp [b_joined, e1, L1, l1, q, wipeD]
    · subst h2
      have q := reb_no (A := A) (xs := (inner (.tup [.str "no"])).map (joinF f))
      rw [jn_no]
      generalize (inner (.tup [.str "no"])).map (joinF f) = X at *
      generalize inner (.tup [.str "no"]) = I at *
      simp [b_joined, e1, L1, l1, q, wipeD]
    · subst h2
      have q := reb_wish (A := A) (i := .int k) (xs := (inner (.tup [.str "wish", .int k])).map (joinF f))
      rw [jn_wish]
      generalize (inner (.tup [.str "wish", .int k])).map (joinF f) = X at *
      generalize inner (.tup [.str "wish", .int k]) = I at *
      simp [b_joined, e1, L1, l1, q, wipeD]
    · subst h1
      rw [jn_not]
      rw [inner_not] at e1 L1 l1
      rw [List.map_cons, List.map_nil] at L1
      have q := reb_not (A := A) (x := e) (y := joinF f e)
      generalize joinF f e = y at *
      simp [b_joined, e1, L1, q, wipeD]
    · subst h1
      have ih := fun e he => join_ok hm (h4 e he) (by omega) (f := f) (by omega)
      obtain ⟨S, hS⟩ := common (l := es.map (joinF f)) (m := m) (n := n) fun x hx => by
        obtain ⟨e, he, rfl⟩ := List.mem_map.mp hx
        exact (ih e he).1
      have q : joinF (f + 1) (.tup [.str (if w then "and" else "or"), .tup es]) = jnJ (aoS w) (es.map (joinF f)) := jn_ao
      rw [q]
      have hie : inner (.tup [.str (if w then "and" else "or"), .tup es]) = es := by cases w <;> simp
      rw [hie] at L1 l1 e1
      have lX : (es.map (joinF f)).length ≤ 6 := by rw [List.length_map]; exact h3
      have hX0 : es.map (joinF f) ≠ [] := by simpa using h2
      generalize es.map (joinF f) = X at *
      have lW := jnW_len (w := w) hm (by omega) hS
      have mW := jnW_mem (w := w) hm (by omega) hS
      have hW0 := jnW_ne (w := w) hm (by omega) hX0 hS
      obtain ⟨x', e'⟩ := join_loop (A := A) (R := m_joined f) (V := some (.lst X)) (w := w) (T := .tup es) hm (by omega) X [] none hS (by simp; omega)
      rw [List.nil_append] at e'
      have hq : (A ++ [O.lst (jnW (aoS w) X)])[A.length]? = some (.lst (jnW (aoS w) X)) := get_last
      have nX := dec_noRs hS
      have nW := dec_noRs mW
      have e1 : m_inner_parts [.tup [.str (aoS w), .tup es]] A = .ok (.lst es) A := e1
      have L1 := L1 (some (.tup [.str (aoS w), .tup es]))
      show runB 4 (b_joined (m_joined f)) [.tup [.str (aoS w), .tup es]] A = _
      have ino : ∀ A, dIn true (.str (aoS w)) (.tup [.str "and", .str "or"]) A = .ok (.bl false) A := fun A => by cases w <;> simp [aoS]
      unfold jnJ jnL
      generalize jnW (aoS w) X = W at *
      have fl : fLen [.ref A.length] (A ++ [O.lst W]) = .ok (.int W.length) (A ++ [O.lst W]) := by
        unfold fLen
        simp [hq]
      have i0 : ∀ y ys, W = y :: ys → dIx (.ref A.length) (.int 0) (A ++ [O.lst W]) = .ok y (A ++ [O.lst W]) := fun y ys e => by
        have : lstOf (.ref A.length) (A ++ [O.lst W]) = some W := by
          show (match (A ++ [O.lst W])[A.length]? with
            | some (.lst ds) => some ds
            | _ => none) = _
          rw [hq]
        rw [dIx_r, this, e]
        simp
      have ts : ∀ P : List D, P.all noR = true → trimR A (.ok (.tup [.str (aoS w), .tup P]) (A ++ [O.lst W])) = .ok (.tup [.str (aoS w), .tup P]) A := fun P hP => trimR_app (A := A) (B := [O.lst W]) (by simp; simpa using hP)
      have t1 : ∀ y, noR y = true → trimR A (.ok y (A ++ [O.lst W])) = .ok y A := fun y hy => trimR_app (A := A) (B := [O.lst W]) hy
      have lW2 : W.length < 16777216 := by omega
      have lX2 : X.length < 16777216 := by omega
      by_cases z : W.length ≤ 6
      · rw [if_pos z]
        have z' : (W.length : Int) ≤ 6 := by omega
        match W, hW0, hq, fl, i0, nW, e', z', ts, t1, lW2 with
        | [], hW0, hq, fl, i0, nW, e', z', ts, t1, lW2 => exact absurd rfl hW0
        | [y], hW0, hq, fl, i0, nW, e', z', ts, t1, lW2 =>
          have i0 := i0 y [] rfl
          have t1 := t1 y (by simpa using nW)
          generalize A ++ [O.lst [y]] = Z at *
          generalize aoS w = W at *
          simp [b_joined, e1, L1, l1, lX2, ino, e', fl, i0, t1, wipeD, -dIx_r]
        | y :: y2 :: ys, hW0, hq, fl, i0, nW, e', z', ts, t1, lW2 =>
          have ts := ts (y :: y2 :: ys) nW
          have n1 : ¬ ((y :: y2 :: ys).length : Int) = 1 := by simp only [List.length_cons]; omega
          show _ = Vi.R.ok (D.tup [.str (aoS w), .tup (y :: y2 :: ys)]) A
          generalize y :: y2 :: ys = P at *
          generalize A ++ [O.lst P] = Z at *
          generalize aoS w = W at *
          simp [b_joined, e1, L1, l1, lX2, lW2, ino, e', fl, z', n1, hq, ts, wipeD]
      · rw [if_neg z]
        have z' : ¬ (W.length : Int) ≤ 6 := by omega
        match X, hX0, nX, e', L1, lX2, ts with
        | [], hX0, nX, e', L1, lX2, ts => exact absurd rfl hX0
        | [y], hX0, nX, e', L1, lX2, ts =>
          have t1 := t1 y (by simpa using nX)
          generalize A ++ [O.lst W] = Z at *
          generalize aoS w = V at *
          simp [b_joined, e1, L1, ino, e', fl, z', t1, wipeD]
        | y :: y2 :: ys, hX0, nX, e', L1, lX2, ts =>
          have ts := ts (y :: y2 :: ys) nX
          have n1 : ¬ ((y :: y2 :: ys).length : Int) = 1 := by simp only [List.length_cons]; omega
          show _ = Vi.R.ok (D.tup [.str (aoS w), .tup (y :: y2 :: ys)]) A
          generalize y :: y2 :: ys = P at *
          generalize A ++ [O.lst W] = Z at *
          generalize aoS w = V at *
          simp [b_joined, e1, L1, lX2, ino, e', fl, z', n1, ts, wipeD]
    · subst h1
      rw [jn_cases]
      rw [inner_cases] at L1 e1 l1
      have e1 : m_inner_parts [.tup [.str "cases", .tup (ps.map fun p => .tup [p.1, p.2]), e]] A = .ok (.lst (flatP ps e)) A := e1
      have L1 : ∀ c : Option D, lcD (fun _ => True) (tgN 3) mYes (mCall (m_joined f) [] (mArgs (mVar 3) mArgs0)) [c, none, none, none] (flatP ps e) [] A = .ok ((flatP ps e).map (joinF f)) A := L1
      have l1 : ((flatP ps e).map (joinF f)).length < 16777216 := l1
      rw [flat_map] at L1 l1
      have hpe : (ps.map fun p => D.tup [joinF f p.1, joinF f p.2]) = pairsD (ps.map fun p => (joinF f p.1, joinF f p.2)) := by rw [pairsD, List.map_map]; rfl
      rw [hpe]
      have q := reb_cases (A := A) (x := .tup (ps.map fun p => .tup [p.1, p.2])) (y := e) (e := joinF f e) (ps := ps.map fun p => (joinF f p.1, joinF f p.2)) (by rw [List.length_map]; omega)
      generalize pairsD (ps.map fun p => (joinF f p.1, joinF f p.2)) = Q at *
      generalize flatP (ps.map fun p => (joinF f p.1, joinF f p.2)) (joinF f e) = F2 at *
      generalize flatP ps e = F1 at *
      simp [b_joined, e1, L1, l1, q, wipeD]
end
end Mb
end
section
set_option Elab.async false
set_option linter.all false
set_option maxRecDepth 100000
set_option maxHeartbeats 2000000
namespace Vi
open PySem PySem.Spec L2 PyProof.Rows
/-! list(range(a, b, c)) -/
section
noncomputable local instance (priority := 10000) clsRC (p : Prop) : Decidable p := Classical.propDecidable p
end
end Vi
end
section
set_option Elab.async false
set_option linter.all false
set_option maxRecDepth 100000
set_option maxHeartbeats 400000
namespace Mb
open PySem PySem.Spec L2 Vi
section
variable {m n s f g k t q S : Nat} {d e y : D} {A : List O} {r : List Bool} {a b w : Bool} {es xs : List D}
/-! cases put as ands and ors -/
def prU (r : D) : D × D := match r with
  | .tup [x, y] => (x, y)
  | r => (r, r)
def lad1 (t a x : D) : D := .tup [.str "or", .tup [.tup [.str "and", .tup [t, a]], .tup [.str "and", .tup [.tup [.str "not", t], x]]]]
def ladD (ps : List (D × D)) (e : D) : D := ps.foldr (fun p x => lad1 p.1 p.2 x) e
def opnF : Nat → D → D
  | 0, d => d
  | n + 1, d => match d with
    | .tup [.str w, x] => if w = ("not" : Str) then .tup [.str "not", opnF n x] else
        match x with
        | .tup es => .tup [.str w, .tup (es.map (opnF n))]
        | _ => d
    | .tup [.str w, .tup rs, e] => ladD (rs.map fun r => (opnF n (prU r).1, opnF n (prU r).2)) (opnF n e)
    | d => d
def osL (g : D → Int) (ps : List (D × D)) (z : Int) : Int := ps.foldr (fun p a => 4 + 2 * g p.1 + g p.2 + a) z
def odL (g : D → Int) (ps : List (D × D)) (z : Int) : Int := ps.foldr (fun p a => 2 + max (max (1 + g p.1) (g p.2)) a) z
def osI : Nat → D → Int
  | 0, _ => 0
  | n + 1, d => match d with
    | .tup [.str w, .tup rs, e] => osL (osI n) (rs.map prU) (osI n e)
    | d => 1 + ((inner d).map (osI n)).sum
def odI : Nat → D → Int
  | 0, _ => 0
  | n + 1, d => match d with
    | .tup [.str w, .tup rs, e] => odL (odI n) (rs.map prU) (odI n e)
    | d => 1 + maxL 0 ((inner d).map (odI n))
theorem prU_map {ps : List (D × D)} : (pairsD ps).map prU = ps := by
  rw [List.map_map]
  exact (List.map_congr_left fun p _ => rfl).trans (List.map_id ps)
theorem opn_yes : opnF (n + 1) (.tup [.str "yes"]) = .tup [.str "yes"] := rfl
theorem opn_no : opnF (n + 1) (.tup [.str "no"]) = .tup [.str "no"] := rfl
theorem opn_wish {i : Int} : opnF (n + 1) (.tup [.str "wish", .int i]) = .tup [.str "wish", .int i] := by simp [opnF]
theorem opn_not {x : D} : opnF (n + 1) (.tup [.str "not", x]) = .tup [.str "not", opnF n x] := by simp [opnF]
theorem opn_ao {w : Bool} : opnF (n + 1) (.tup [.str (aoS w), .tup es]) = .tup [.str (aoS w), .tup (es.map (opnF n))] := by cases w <;> simp [opnF, aoS]
theorem opn_cases {ps : List (D × D)} : opnF (n + 1) (.tup [.str "cases", .tup (pairsD ps), e]) = ladD (ps.map fun p => (opnF n p.1, opnF n p.2)) (opnF n e) := by
  show ladD ((pairsD ps).map _) _ = _
  rw [List.map_map]
  rfl
theorem os_yes : osI (n + 1) (.tup [.str "yes"]) = 1 := by simp [osI]
theorem os_no : osI (n + 1) (.tup [.str "no"]) = 1 := by simp [osI]
theorem os_wish {x : D} : osI (n + 1) (.tup [.str "wish", x]) = 1 := by simp [osI]
theorem os_not {x : D} : osI (n + 1) (.tup [.str "not", x]) = 1 + osI n x := by simp [osI]
theorem os_ao : osI (n + 1) (.tup [.str (aoS w), .tup es]) = 1 + (es.map (osI n)).sum := by cases w <;> simp [osI, aoS]
theorem os_cases {ps : List (D × D)} : osI (n + 1) (.tup [.str "cases", .tup (pairsD ps), e]) = osL (osI n) ps (osI n e) := by
  show osL _ ((pairsD ps).map prU) _ = _
  rw [prU_map]
theorem od_yes : odI (n + 1) (.tup [.str "yes"]) = 1 := by simp [odI, maxL]
theorem od_no : odI (n + 1) (.tup [.str "no"]) = 1 := by simp [odI, maxL]
theorem od_wish {x : D} : odI (n + 1) (.tup [.str "wish", x]) = 1 := by simp [odI, maxL]
theorem od_not {x : D} : odI (n + 1) (.tup [.str "not", x]) = 1 + odI n x := by simp [odI, maxL]
theorem od_ao : odI (n + 1) (.tup [.str (aoS w), .tup es]) = 1 + maxL 0 (es.map (odI n)) := by cases w <;> simp [odI, aoS]
theorem od_cases {ps : List (D × D)} : odI (n + 1) (.tup [.str "cases", .tup (pairsD ps), e]) = odL (odI n) ps (odI n e) := by
  show odL _ ((pairsD ps).map prU) _ = _
  rw [prU_map]
/-! the program's walk -/
theorem rngC_at {lo c : Int} {n i : Nat} {d : D} (h : (rngC lo c n)[i]? = some d) : i < n ∧ d = .int (lo + (i : Int) * c) := by
  unfold rngC at h
  rw [List.getElem?_map] at h
  obtain ⟨k, h1, rfl⟩ := Option.map_eq_some_iff.mp h
  rw [List.getElem?_eq_some_iff] at h1
  obtain ⟨h2, h3⟩ := h1
  rw [List.getElem_range] at h3
  subst h3
  exact ⟨by simpa using h2, rfl⟩
theorem rngC_len {lo c : Int} {n : Nat} : (rngC lo c n).length = n := by unfold rngC; rw [List.length_map, List.length_range]
theorem rgc_down2 {n : Nat} (h0 : 1 ≤ n) (hn : n < 100000) : RgC (2 * (n : Int) - 2) (-1) (-2) n := by
  have e : PySem.Builtin.Range.rangeSize (2 * (n : Int) - 2) (-1) (-2) = n := by
    unfold PySem.Builtin.Range.rangeSize
    rw [if_neg (show ¬ (-2 : Int) > 0 by decide)]
    simp only [Int.neg_neg]
    split <;> omega
  refine ⟨by decide, by decide, ?_, e⟩
  unfold Builtin.Range.small
  rw [e]
  simp only [Builtin.Range.rangeFitsLong, Bool.and_eq_true, Bool.or_eq_true, decide_eq_true_eq, beq_iff_eq, show ¬ ((-2 : Int) > 0) by decide, if_false]
  omega
theorem down2_ok {n : Nat} (h0 : 1 ≤ n) (hn : n < 100000) (A : List O) : fRange3 [.int (2 * (n : Int) + 1 - 3), .int (-1), .int (-2)] A = .ok (.fix (rngC (2 * (n : Int) - 2) (-2) n)) A := by
  rw [show 2 * (n : Int) + 1 - 3 = 2 * (n : Int) - 2 by omega]
  exact fRange3_e (rgc_down2 h0 hn) A
theorem opened_s (f : Nat) : m_opened (f + 1) = runB 6 (b_opened (m_opened f)) := rfl
theorem opened_size_s (f : Nat) : m_opened_size (f + 1) = runB 8 (b_opened_size (m_opened_size f)) := rfl
theorem drop_c {α : Type} {l : List α} {i : Nat} (h : i < l.length) : ∃ x, l[l.length - 1 - i]? = some x ∧ l.drop (l.length - (i + 1)) = x :: l.drop (l.length - i) := by
  have h1 : l.length - 1 - i < l.length := by omega
  refine ⟨l[l.length - 1 - i], List.getElem?_eq_getElem h1, ?_⟩
  have := List.drop_eq_getElem_cons h1
  rw [show l.length - 1 - i + 1 = l.length - i by omega] at this
  rw [show l.length - (i + 1) = l.length - 1 - i by omega]
  exact this
theorem open_loop {R : List D → List O → Vi.R D} {E : D} {Ps : List (D × D)} : ∃ x3 x4, forD (fun _ => True) (tgN 3) (b_opened_1 R) (rngC (2 * (Ps.length : Int) - 2) (-2) Ps.length) [some d, some (.lst (flatP Ps E)), some E, none, none, none] A = .ok (.nx [some d, some (.lst (flatP Ps E)), some (ladD Ps E), x3, x4, none]) A := by
  obtain ⟨σ', A', e1, hA, x3, x4, hσ⟩ := forD_cnt (ok := fun _ => True) (tg := tgN 3) (body := b_opened_1 R) (fun i σ B => B = A ∧ ∃ x3 x4, σ = [some d, some (.lst (flatP Ps E)), some (ladD (Ps.drop (Ps.length - i)) E), x3, x4, none]) (fun _ _ _ _ => trivial) (ds := rngC (2 * (Ps.length : Int) - 2) (-2) Ps.length) (σ := [some d, some (.lst (flatP Ps E)), some E, none, none, none]) (A := A) (k := 0)
    ⟨rfl, none, none, by rw [Nat.sub_zero, List.drop_length]; rfl⟩ fun i z hz σ B ⟨hB, x3, x4, hσ⟩ => by
      subst hB hσ
      obtain ⟨hi, rfl⟩ := rngC_at hz
      rw [Nat.zero_add]
      obtain ⟨p, hp, hd⟩ := drop_c hi
      obtain ⟨g1, g2⟩ := flatP_get (e := E) hp
      have i1 := ix_l (A := B) g1
      have i2 := ix_l (A := B) g2
      have c1 : 2 * (Ps.length : Int) - 2 + (i : Int) * (-2) = ((2 * (Ps.length - 1 - i) : Nat) : Int) := by omega
      have c2 : dAdd true (.int ((2 * (Ps.length - 1 - i) : Nat) : Int)) (.int 1) B = .ok (.int ((2 * (Ps.length - 1 - i) + 1 : Nat) : Int)) B := rfl
      rw [c1, hd]
      refine ⟨_, _, _, _, tgN_e, .inl ?_, rfl, some (.int ((2 * (Ps.length - 1 - i) : Nat) : Int)), some p.1, rfl⟩
      have hl : ladD (p :: Ps.drop (Ps.length - i)) E = lad1 p.1 p.2 (ladD (Ps.drop (Ps.length - i)) E) := rfl
      rw [hl]
      unfold lad1
      generalize ladD (Ps.drop (Ps.length - i)) E = X at *
      generalize ((2 * (Ps.length - 1 - i) : Nat) : Int) = u at *
      generalize ((2 * (Ps.length - 1 - i) + 1 : Nat) : Int) = u1 at *
      generalize flatP Ps E = F at *
      simp [b_opened_1, i1, i2, c2, -dIx_l, -dAdd_ii]
  subst hA hσ
  rw [rngC_len, Nat.zero_add, Nat.sub_self, List.drop_zero] at e1
  exact ⟨x3, x4, e1⟩
theorem opened_ok : ∀ {n s : Nat} {d : D}, Dec m n s d → ∀ {f : Nat}, n ≤ f → ∀ A, m_opened f [d] A = .ok (opnF f d) A
  | n + 1, s, d, h, f, hf, A => by
    obtain ⟨f, rfl⟩ : ∃ g, f = g + 1 := ⟨f - 1, by omega⟩
    have e1 := ip_ok h A
    have hl := inner_le h
    obtain ⟨t0, k2, _, _⟩ := h.kid
    have L1 : ∀ c : Option D, lcD (fun _ => True) (tgN 5) mYes (mCall (m_opened f) [] (mArgs (mVar 5) mArgs0)) [c, none, none, none, none, none] (inner d) [] A = .ok ((inner d).map (opnF f)) A := fun c =>
      lcD_map (opnF f) trivial (by omega) fun e he => ⟨_, tgN_e, by simp [opened_ok (k2 e he) (f := f) (by omega) A]⟩
    have l1 : ((inner d).map (opnF f)).length < 16777216 := by rw [List.length_map]; omega
    rw [opened_s]
    rcases h with ⟨h, h2 | h2 | ⟨k, hk, h2⟩⟩ | ⟨e, t, h1, h2, h3⟩ | ⟨w, es, t, h1, h2, h3, h4, h5⟩ | ⟨ps, e, t, h1, h2, h3, h4, h5, h6⟩
    · subst h2
      have q := reb_yes (A := A) (xs := (inner (.tup [.str "yes"])).map (opnF f))
      rw [opn_yes]
      generalize (inner (.tup [.str "yes"])).map (opnF f) = X at *
      generalize inner (.tup [.str "yes"]) = I at *
      simp [b_opened, e1, L1, l1, q, wipeD]
    · subst h2
      have q := reb_no (A := A) (xs := (inner (.tup [.str "no"])).map (opnF f))
      rw [opn_no]
      generalize (inner (.tup [.str "no"])).map (opnF f) = X at *
      generalize inner (.tup [.str "no"]) = I at *
      simp [b_opened, e1, L1, l1, q, wipeD]
    · subst h2
      have q := reb_wish (A := A) (i := .int k) (xs := (inner (.tup [.str "wish", .int k])).map (opnF f))
      rw [opn_wish]
      generalize (inner (.tup [.str "wish", .int k])).map (opnF f) = X at *
      generalize inner (.tup [.str "wish", .int k]) = I at *
      simp [b_opened, e1, L1, l1, q, wipeD]
    · subst h1
      rw [opn_not]
      rw [inner_not] at e1 L1 l1
      rw [List.map_cons, List.map_nil] at L1
      have q := reb_not (A := A) (x := e) (y := opnF f e)
      generalize opnF f e = y at *
      simp [b_opened, e1, L1, q, wipeD]
    · subst h1
      have q : opnF (f + 1) (.tup [.str (if w then "and" else "or"), .tup es]) = .tup [.str (aoS w), .tup (es.map (opnF f))] := opn_ao
      rw [q]
      have hie : inner (.tup [.str (if w then "and" else "or"), .tup es]) = es := by cases w <;> simp
      rw [hie] at L1 l1 e1
      have q := reb_ao (A := A) (w := w) (x := .tup es) l1
      generalize es.map (opnF f) = X at *
      cases w
      · simp only [Bool.false_eq_true, if_false] at e1 q L1 ⊢
        simp [b_opened, e1, L1, l1, wipeD, q, aoS]
      · simp only [if_true] at e1 q L1 ⊢
        simp [b_opened, e1, L1, l1, wipeD, q, aoS]
    · subst h1
      have q : opnF (f + 1) (.tup [.str "cases", .tup (ps.map fun p => .tup [p.1, p.2]), e]) = _ := opn_cases
      rw [q]
      have hie : inner (.tup [.str "cases", .tup (ps.map fun p => .tup [p.1, p.2]), e]) = flatP ps e := inner_cases
      rw [hie] at L1 l1 e1
      rw [flat_map] at L1 l1
      have hk1 : 1 ≤ (ps.map fun p => (opnF f p.1, opnF f p.2)).length := by
        rw [List.length_map]
        exact Nat.pos_of_ne_zero fun z => h2 (List.length_eq_zero_iff.mp z)
      have hk2 : (ps.map fun p => (opnF f p.1, opnF f p.2)).length ≤ 4 := by rw [List.length_map]; exact h3
      generalize (ps.map fun p => (opnF f p.1, opnF f p.2)) = Ps at *
      generalize opnF f e = E at *
      obtain ⟨x3, x4, e2⟩ := open_loop (R := m_opened f) (d := .tup [.str "cases", .tup (ps.map fun p => .tup [p.1, p.2]), e]) (E := E) (Ps := Ps) (A := A)
      have e3 := down2_ok hk1 (by omega) A
      have e4 : dIx (.lst (flatP Ps E)) (.int (-1)) A = .ok E A := ix_last
      have e5 : fLen [.lst (flatP Ps E)] A = .ok (.int (2 * (Ps.length : Int) + 1)) A := by
        have : ((flatP Ps E).length : Int) = 2 * (Ps.length : Int) + 1 := by rw [flatP_len]; omega
        rw [← this]
        exact fLen_l
      generalize 2 * (Ps.length : Int) + 1 = u at *
      generalize rngC (2 * (Ps.length : Int) - 2) (-2) Ps.length = RG at *
      generalize flatP Ps E = F at *
      generalize ladD Ps E = Y at *
      generalize flatP ps e = I at *
      simp [b_opened, e1, L1, l1, e2, e3, e4, e5, wipeD, -dIx_l]
end
end Mb
end
section
set_option Elab.async false
set_option linter.all false
set_option maxRecDepth 100000
set_option maxHeartbeats 400000
namespace Mb
open PySem PySem.Spec L2 Vi
section
variable {m n s f g k t q S : Nat} {d e y : D} {A : List O} {r : List Bool} {a b w : Bool} {es xs : List D}
def sp (g1 g2 : D → Int) (e : D) : D := .tup [.int (g1 e), .int (g2 e)]
theorem osize_loop {R : List D → List O → Vi.R D} {g1 g2 : D → Int} {ps : List (D × D)} {z0 p0 : Int} {Y : D} {x5 : Option D} : ∃ x2 x6 x7, forD (fun _ => True) (tgN 2) (b_opened_size_1 R) (rngC (2 * (ps.length : Int) - 2) (-2) ps.length) [some d, some (.lst (flatP (ps.map fun p => (sp g1 g2 p.1, sp g1 g2 p.2)) Y)), none, some (.int z0), some (.int p0), x5, none, none] A =
    .ok (.nx [some d, some (.lst (flatP (ps.map fun p => (sp g1 g2 p.1, sp g1 g2 p.2)) Y)), x2, some (.int (osL g1 ps z0)), some (.int (odL g2 ps p0)), x5, x6, x7]) A := by
  obtain ⟨σ', A', e1, hA, x2, x6, x7, hσ⟩ := forD_cnt (ok := fun _ => True) (tg := tgN 2) (body := b_opened_size_1 R) (fun i σ B => B = A ∧ ∃ x2 x6 x7, σ = [some d, some (.lst (flatP (ps.map fun p => (sp g1 g2 p.1, sp g1 g2 p.2)) Y)), x2, some (.int (osL g1 (ps.drop (ps.length - i)) z0)), some (.int (odL g2 (ps.drop (ps.length - i)) p0)), x5, x6, x7]) (fun _ _ _ _ => trivial) (ds := rngC (2 * (ps.length : Int) - 2) (-2) ps.length) (σ := [some d, some (.lst (flatP (ps.map fun p => (sp g1 g2 p.1, sp g1 g2 p.2)) Y)), none, some (.int z0), some (.int p0), x5, none, none]) (A := A) (k := 0)
    ⟨rfl, none, none, none, by rw [Nat.sub_zero, List.drop_length]; rfl⟩ fun i z hz σ B ⟨hB, x2, x6, x7, hσ⟩ => by
      subst hB hσ
      obtain ⟨hi, rfl⟩ := rngC_at hz
      rw [Nat.zero_add]
      obtain ⟨p, hp, hd⟩ := drop_c hi
      have hp2 : (ps.map fun p => (sp g1 g2 p.1, sp g1 g2 p.2))[ps.length - 1 - i]? = some (sp g1 g2 p.1, sp g1 g2 p.2) := by rw [List.getElem?_map, hp]; rfl
      obtain ⟨h1, h2⟩ := flatP_get (e := Y) hp2
      have i1 := ix_l (A := B) h1
      have i2 := ix_l (A := B) h2
      have c1 : 2 * (ps.length : Int) - 2 + (i : Int) * (-2) = ((2 * (ps.length - 1 - i) : Nat) : Int) := by omega
      have c2 : dAdd true (.int ((2 * (ps.length - 1 - i) : Nat) : Int)) (.int 1) B = .ok (.int ((2 * (ps.length - 1 - i) + 1 : Nat) : Int)) B := rfl
      rw [c1, hd]
      refine ⟨_, _, _, _, tgN_e, .inl ?_, rfl, some (.int ((2 * (ps.length - 1 - i) : Nat) : Int)), some (sp g1 g2 p.1), some (sp g1 g2 p.2), rfl⟩
      have hl1 : osL g1 (p :: ps.drop (ps.length - i)) z0 = 4 + 2 * g1 p.1 + g1 p.2 + osL g1 (ps.drop (ps.length - i)) z0 := rfl
      have hl2 : odL g2 (p :: ps.drop (ps.length - i)) p0 = 2 + max (max (1 + g2 p.1) (g2 p.2)) (odL g2 (ps.drop (ps.length - i)) p0) := rfl
      rw [hl1, hl2]
      generalize osL g1 (ps.drop (ps.length - i)) z0 = X1 at *
      generalize odL g2 (ps.drop (ps.length - i)) p0 = X2 at *
      generalize ((2 * (ps.length - 1 - i) : Nat) : Int) = u at *
      generalize ((2 * (ps.length - 1 - i) + 1 : Nat) : Int) = u1 at *
      generalize flatP (ps.map fun p => (sp g1 g2 p.1, sp g1 g2 p.2)) Y = F at *
      unfold sp at *
      have c3 : dAdd true (.int u) (.int 1) B = .ok (.int u1) B := c2
      have c4 : dIx (.lst F) (.int u) B = .ok (.tup [.int (g1 p.1), .int (g2 p.1)]) B := i1
      have c5 : dIx (.lst F) (.int u1) B = .ok (.tup [.int (g1 p.2), .int (g2 p.2)]) B := i2
      clear i1 i2 c2
      generalize g1 p.1 = y1 at *
      generalize g2 p.1 = y2 at *
      generalize g1 p.2 = y3 at *
      generalize g2 p.2 = y4 at *
      have c6 : ∀ B, fMax3 [.int (1 + y2), .int y4, .int X2] B = .ok (.int (max (max (1 + y2) y4) X2)) B := fun _ => rfl
      have c7 : u + 1 = u1 := by simpa using c3
      have step : b_opened_size_1 R [some d, some (.lst F), some (.int u), some (.int X1), some (.int X2), x5, x6, x7] B = .ok (.nx [some d, some (.lst F), some (.int u), some (.int (4 + 2 * y1 + y3 + X1)), some (.int (2 + max (max (1 + y2) y4) X2)), x5, some (.tup [.int y1, .int y2]), some (.tup [.int y3, .int y4])]) B := by
        have e2 : dIx (.lst F) (.int (u + 1)) B = .ok (.tup [.int y3, .int y4]) B := by rw [c7]; exact c5
        have s1 : ∀ B, dIx (.tup [.int y1, .int y2]) (.int 0) B = .ok (.int y1) B := fun _ => rfl
        have s2 : ∀ B, dIx (.tup [.int y1, .int y2]) (.int 1) B = .ok (.int y2) B := fun _ => rfl
        have s3 : ∀ B, dIx (.tup [.int y3, .int y4]) (.int 0) B = .ok (.int y3) B := fun _ => rfl
        have s4 : ∀ B, dIx (.tup [.int y3, .int y4]) (.int 1) B = .ok (.int y4) B := fun _ => rfl
        generalize D.tup [.int y1, .int y2] = T1 at *
        generalize D.tup [.int y3, .int y4] = T2 at *
        generalize D.lst F = FL at *
        simp [b_opened_size_1, sPar, withE, c4, e2, c6, s1, s2, s3, s4]
      exact step
  subst hA hσ
  rw [rngC_len, Nat.zero_add, Nat.sub_self, List.drop_zero] at e1
  exact ⟨x2, x6, x7, e1⟩
theorem opened_size_ok : ∀ {n s : Nat} {d : D}, Dec m n s d → ∀ {f : Nat}, n ≤ f → ∀ A, m_opened_size f [d] A = .ok (.tup [.int (osI f d), .int (odI f d)]) A
  | n + 1, s, d, h, f, hf, A => by
    obtain ⟨f, rfl⟩ : ∃ g, f = g + 1 := ⟨f - 1, by omega⟩
    have e1 := ip_ok h A
    have hl := inner_le h
    obtain ⟨t0, k2, _, _⟩ := h.kid
    have L1 : ∀ c : Option D, lcD (fun _ => True) (tgN 5) mYes (mCall (m_opened_size f) [] (mArgs (mVar 5) mArgs0)) [c, none, none, none, none, none, none, none] (inner d) [] A = .ok ((inner d).map (sp (osI f) (odI f))) A := fun c =>
      lcD_map (sp (osI f) (odI f)) trivial (by omega) fun e he => ⟨_, tgN_e, by simp [opened_size_ok (k2 e he) (f := f) (by omega) A, sp]⟩
    have l1 : ((inner d).map (sp (osI f) (odI f))).length < 16777216 := by rw [List.length_map]; omega
    have L2 : ∀ c : Option D, lcD (fun _ => True) (tgT 2 (tgsCons (tgN 3) (tgsCons (tgN 4) tgsNil))) mYes (mVar 3) [some d, c, none, none, none, none, none, none] ((inner d).map (sp (osI f) (odI f))) [] A = .ok (((inner d).map (osI f)).map D.int) A := fun c => by
      rw [lcD_m (fun e => D.int (osI f e)) trivial (by omega) fun e he => ?_, mapI]
      exact ⟨[some d, c, none, some (.int (osI f e)), some (.int (odI f e)), none, none, none], by simp [sp], by simp⟩
    have L3 : ∀ c : Option D, lcD (fun _ => True) (tgT 2 (tgsCons (tgN 3) (tgsCons (tgN 4) tgsNil))) mYes (mVar 4) [some d, c, none, none, none, none, none, none] ((inner d).map (sp (osI f) (odI f))) [] A = .ok (((inner d).map (odI f)).map D.int) A := fun c => by
      rw [lcD_m (fun e => D.int (odI f e)) trivial (by omega) fun e he => ?_, mapI]
      exact ⟨[some d, c, none, some (.int (osI f e)), some (.int (odI f e)), none, none, none], by simp [sp], by simp⟩
    have l2 : ((inner d).map (osI f)).length < 16777216 := by rw [List.length_map]; omega
    have l3 : ((inner d).map (odI f)).length < 16777216 := by rw [List.length_map]; omega
    rw [opened_size_s]
    have hc : hdS d ≠ Str.ofString "cases" → osI (f + 1) d = 1 + ((inner d).map (osI f)).sum → odI (f + 1) d = 1 + maxL 0 ((inner d).map (odI f)) → (∀ A, dIx d (.int 0) A = .ok (.str (hdS d)) A) → runB 8 (b_opened_size (m_opened_size f)) [d] A = .ok (.tup [.int (osI (f + 1) d), .int (odI (f + 1) d)]) A := fun q1 q2 q3 q4 => by
      rw [q2, q3]
      generalize (inner d).map (sp (osI f) (odI f)) = T at *
      generalize (inner d).map (osI f) = X1 at *
      generalize (inner d).map (odI f) = X2 at *
      generalize inner d = I at *
      generalize hdS d = W at *
      simp [b_opened_size, e1, L1, L2, L3, wipeD, l1, l2, l3, q4, q1]
    have hx := hd_ixM h
    rcases h with ⟨h, h2 | h2 | ⟨k, hk, h2⟩⟩ | ⟨e, t, h1, h2, h3⟩ | ⟨w, es, t, h1, h2, h3, h4, h5⟩ | ⟨ps, e, t, h1, h2, h3, h4, h5, h6⟩
    · subst h2
      exact hc (by simp [hdS]) rfl rfl hx
    · subst h2
      exact hc (by simp [hdS]) rfl rfl hx
    · subst h2
      exact hc (by simp [hdS]) (by simp [osI]) (by simp [odI, maxL]) hx
    · subst h1
      exact hc (by simp [hdS]) (by simp [osI]) (by simp [odI]) hx
    · subst h1
      cases w
      · exact hc (by simp [hdS]) (by simp [osI]) (by simp [odI]) hx
      · exact hc (by simp [hdS]) (by simp [osI]) (by simp [odI]) hx
    · subst h1
      clear hc
      have q1 : osI (f + 1) (.tup [.str "cases", .tup (ps.map fun p => .tup [p.1, p.2]), e]) = _ := os_cases
      have q2 : odI (f + 1) (.tup [.str "cases", .tup (ps.map fun p => .tup [p.1, p.2]), e]) = _ := od_cases
      rw [q1, q2]
      have hie : inner (.tup [.str "cases", .tup (ps.map fun p => .tup [p.1, p.2]), e]) = flatP ps e := inner_cases
      rw [hie] at L1 l1 e1
      rw [flat_map] at L1 l1
      clear L2 L3 l2 l3
      have hk1 : 1 ≤ ps.length := Nat.pos_of_ne_zero fun z => h2 (List.length_eq_zero_iff.mp z)
      obtain ⟨x2, x6, x7, e2⟩ := osize_loop (R := m_opened_size f) (d := .tup [.str "cases", .tup (ps.map fun p => .tup [p.1, p.2]), e]) (g1 := osI f) (g2 := odI f) (ps := ps) (z0 := osI f e) (p0 := odI f e) (Y := sp (osI f) (odI f) e) (x5 := none) (A := A)
      have e3 := down2_ok hk1 (by omega) A
      have e4 : dIx (.lst (flatP (ps.map fun p => (sp (osI f) (odI f) p.1, sp (osI f) (odI f) p.2)) (sp (osI f) (odI f) e))) (.int (-1)) A = .ok (sp (osI f) (odI f) e) A := ix_last
      have e5 : fLen [.lst (flatP (ps.map fun p => (sp (osI f) (odI f) p.1, sp (osI f) (odI f) p.2)) (sp (osI f) (odI f) e))] A = .ok (.int (2 * (ps.length : Int) + 1)) A := by
        have : ((flatP (ps.map fun p => (sp (osI f) (odI f) p.1, sp (osI f) (odI f) p.2)) (sp (osI f) (odI f) e)).length : Int) = 2 * (ps.length : Int) + 1 := by rw [flatP_len, List.length_map]; omega
        rw [← this]
        exact fLen_l
      generalize 2 * (ps.length : Int) + 1 = u at *
      generalize rngC (2 * (ps.length : Int) - 2) (-2) ps.length = RG at *
      generalize osL (osI f) ps (osI f e) = Y1 at *
      generalize odL (odI f) ps (odI f e) = Y2 at *
      generalize flatP (ps.map fun p => (sp (osI f) (odI f) p.1, sp (osI f) (odI f) p.2)) (sp (osI f) (odI f) e) = F at *
      have hs : sp (osI f) (odI f) e = .tup [.int (osI f e), .int (odI f e)] := rfl
      rw [hs] at e4
      clear hs
      generalize osI f e = z0 at *
      generalize odI f e = p0 at *
      generalize flatP ps e = I at *
      simp [b_opened_size, e1, L1, l1, e2, e3, e4, e5, wipeD, -dIx_l]
end
end Mb
end
section
set_option Elab.async false
set_option linter.all false
set_option maxRecDepth 100000
set_option maxHeartbeats 400000
namespace Mb
open PySem PySem.Spec L2 Vi
section
variable {m n s f g k t q S : Nat} {d e y : D} {A : List O} {r : List Bool} {a b w : Bool} {es xs : List D}
/-! what comes is a decision, its size is told aforehand -/
/-- D is the depth, z the size -/
def Opd (m : Nat) (z p : Int) (x : D) : Prop := 1 ≤ z ∧ ∃ N S : Nat, (N : Int) = p ∧ Dec m N S x ∧ ∀ g : Nat, N ≤ g → szI g x = z ∧ dpI g x = p
theorem le_maxL {x : Int} : ∀ {l : List Int}, x ∈ l → x ≤ maxL 0 l
  | y :: ys, h => (foldl_max ys y).2 x h
theorem opd_leaf {x : D} (h : Dec m 1 1 x) (hi : inner x = []) : Opd m 1 1 x := by
  refine ⟨by omega, 1, 1, rfl, h, fun g hg => ?_⟩
  obtain ⟨g, rfl⟩ : ∃ k, g = k + 1 := ⟨g - 1, by omega⟩
  rw [szI, dpI, hi]
  exact ⟨rfl, rfl⟩
theorem opd_not {z p : Int} {x : D} (h : Opd m z p x) : Opd m (1 + z) (1 + p) (.tup [.str "not", x]) := by
  obtain ⟨h1, N, S, h2, h3, h4⟩ := h
  refine ⟨by omega, N + 1, S + 1, by omega, .inr (.inl ⟨x, S, rfl, h3, by omega⟩), fun g hg => ?_⟩
  obtain ⟨g, rfl⟩ : ∃ k, g = k + 1 := ⟨g - 1, by omega⟩
  rw [szI, dpI, inner_not]
  obtain ⟨q1, q2⟩ := h4 g (by omega)
  simp only [List.map_cons, List.map_nil, List.sum_cons, List.sum_nil, q1, q2, maxL, List.foldl_nil]
  exact ⟨by omega, trivial⟩
theorem opd_ao {α : Type} {xs : List α} {φ : α → D} {z p : α → Int} (h0 : xs ≠ []) (h6 : xs.length ≤ 6) (h : ∀ x ∈ xs, Opd m (z x) (p x) (φ x)) : Opd m (1 + (xs.map z).sum) (1 + maxL 0 (xs.map p)) (.tup [.str (aoS w), .tup (xs.map φ)]) := by
  have hp : ∀ x ∈ xs, 0 ≤ p x := fun x hx => by
    obtain ⟨_, N, S, h2, _⟩ := h x hx
    omega
  have hz : ∀ x ∈ xs, 1 ≤ z x := fun x hx => (h x hx).1
  have nn : 0 ≤ maxL 0 (xs.map p) := maxL_nn fun y hy => by
    obtain ⟨x, hx, rfl⟩ := List.mem_map.mp hy
    exact hp x hx
  have zz : 0 ≤ (xs.map z).sum := sumI_nn fun y hy => by
    obtain ⟨x, hx, rfl⟩ := List.mem_map.mp hy
    have := hz x hx
    omega
  obtain ⟨M, hM⟩ := Int.eq_ofNat_of_zero_le nn
  have le : ∀ x ∈ xs, p x ≤ M := fun x hx => by rw [← hM]; exact le_maxL (List.mem_map_of_mem hx)
  obtain ⟨S, hS⟩ := common (l := xs.map φ) (m := m) (n := M) fun y hy => by
    obtain ⟨x, hx, rfl⟩ := List.mem_map.mp hy
    obtain ⟨_, N, S, h2, h3, _⟩ := h x hx
    have := le x hx
    exact ⟨S, h3.mono (by omega) (Nat.le_refl _)⟩
  refine ⟨by omega, M + 1, (xs.map φ).length * S + 1, by rw [hM]; omega, .inr (.inr (.inl ⟨w, xs.map φ, S, rfl, by simpa using h0, by rw [List.length_map]; exact h6, hS, Nat.le_refl _⟩)), fun g hg => ?_⟩
  obtain ⟨g, rfl⟩ : ∃ k, g = k + 1 := ⟨g - 1, by omega⟩
  have hie : inner (.tup [.str (aoS w), .tup (xs.map φ)]) = xs.map φ := by cases w <;> simp [aoS]
  have hg' : ∀ x ∈ xs, szI g (φ x) = z x ∧ dpI g (φ x) = p x := fun x hx => by
    obtain ⟨_, N, S, h2, h3, h4⟩ := h x hx
    have := le x hx
    exact h4 g (by omega)
  rw [szI, dpI, hie, List.map_map, List.map_map]
  have r1 : xs.map (szI g ∘ φ) = xs.map z := List.map_congr_left fun x hx => (hg' x hx).1
  have r2 : xs.map (dpI g ∘ φ) = xs.map p := List.map_congr_left fun x hx => (hg' x hx).2
  rw [r1, r2]
  exact ⟨rfl, rfl⟩
theorem opd_to {z p z' p' : Int} {x : D} (h : Opd m z p x) (h1 : z' = z) (h2 : p' = p) : Opd m z' p' x := by subst h1 h2; exact h
theorem opd_lad1 {z1 p1 z2 p2 z3 p3 : Int} {t a x : D} (ht : Opd m z1 p1 t) (ha : Opd m z2 p2 a) (hx : Opd m z3 p3 x) : Opd m (4 + 2 * z1 + z2 + z3) (2 + max (max (1 + p1) p2) p3) (lad1 t a x) := by
  have l1 := opd_ao (m := m) (w := true) (xs := [(t, z1, p1), (a, z2, p2)]) (φ := fun q => q.1) (z := fun q => q.2.1) (p := fun q => q.2.2) (by simp) (by simp) fun q hq => by
    rcases List.mem_cons.mp hq with rfl | hq
    · exact ht
    · rcases List.mem_singleton.mp hq with rfl
      exact ha
  have l2 := opd_ao (m := m) (w := true) (xs := [((.tup [.str "not", t] : D), 1 + z1, 1 + p1), (x, z3, p3)]) (φ := fun q => q.1) (z := fun q => q.2.1) (p := fun q => q.2.2) (by simp) (by simp) fun q hq => by
    rcases List.mem_cons.mp hq with rfl | hq
    · exact opd_not ht
    · rcases List.mem_singleton.mp hq with rfl
      exact hx
  simp only [List.map_cons, List.map_nil, List.sum_cons, List.sum_nil, maxL, List.foldl_cons, List.foldl_nil] at l1 l2
  have l3 := opd_ao (m := m) (w := false) (xs := [((.tup [.str (aoS true), .tup [t, a]] : D), 1 + (z1 + (z2 + 0)), 1 + max p1 p2), ((.tup [.str (aoS true), .tup [.tup [.str "not", t], x]] : D), 1 + (1 + z1 + (z3 + 0)), 1 + max (1 + p1) p3)]) (φ := fun q => q.1) (z := fun q => q.2.1) (p := fun q => q.2.2) (by simp) (by simp) fun q hq => by
    rcases List.mem_cons.mp hq with rfl | hq
    · exact l1
    · rcases List.mem_singleton.mp hq with rfl
      exact l2
  simp only [List.map_cons, List.map_nil, List.sum_cons, List.sum_nil, maxL, List.foldl_cons, List.foldl_nil] at l3
  exact opd_to l3 (by omega) (by omega)
theorem opd_lad {φ : D → D} {g1 g2 : D → Int} : ∀ {ps : List (D × D)}, (∀ p ∈ ps, Opd m (g1 p.1) (g2 p.1) (φ p.1) ∧ Opd m (g1 p.2) (g2 p.2) (φ p.2)) → Opd m (g1 e) (g2 e) (φ e) → Opd m (osL g1 ps (g1 e)) (odL g2 ps (g2 e)) (ladD (ps.map fun p => (φ p.1, φ p.2)) (φ e))
  | [], _, he => he
  | p :: ps, h, he => opd_lad1 (h p List.mem_cons_self).1 (h p List.mem_cons_self).2 (opd_lad (fun q hq => h q (List.mem_cons_of_mem _ hq)) he)
theorem opn_opd : ∀ {n s : Nat} {d : D}, Dec m n s d → ∀ {f : Nat}, n ≤ f → Opd m (osI f d) (odI f d) (opnF f d)
  | n + 1, s, d, h, f, hf => by
    obtain ⟨f, rfl⟩ : ∃ g, f = g + 1 := ⟨f - 1, by omega⟩
    rcases h with ⟨h, h2 | h2 | ⟨k, hk, h2⟩⟩ | ⟨e, t, h1, h2, h3⟩ | ⟨w, es, t, h1, h2, h3, h4, h5⟩ | ⟨ps, e, t, h1, h2, h3, h4, h5, h6⟩
    · subst h2
      rw [opn_yes, os_yes, od_yes]
      exact opd_leaf (.inl ⟨by decide, .inl rfl⟩) inner_yes
    · subst h2
      rw [opn_no, os_no, od_no]
      exact opd_leaf (.inl ⟨by decide, .inr (.inl rfl)⟩) inner_no
    · subst h2
      rw [opn_wish, os_wish, od_wish]
      exact opd_leaf (Dec.wish hk (Nat.le_refl _)) inner_wish
    · subst h1
      rw [opn_not, os_not, od_not]
      exact opd_not (opn_opd h2 (by omega))
    · subst h1
      have q1 : opnF (f + 1) (.tup [.str (if w then "and" else "or"), .tup es]) = _ := opn_ao
      have q2 : osI (f + 1) (.tup [.str (if w then "and" else "or"), .tup es]) = _ := os_ao
      have q3 : odI (f + 1) (.tup [.str (if w then "and" else "or"), .tup es]) = _ := od_ao
      rw [q1, q2, q3]
      exact opd_ao h2 h3 fun e he => opn_opd (h4 e he) (by omega)
    · subst h1
      have q1 : opnF (f + 1) (.tup [.str "cases", .tup (ps.map fun p => .tup [p.1, p.2]), e]) = _ := opn_cases
      have q2 : osI (f + 1) (.tup [.str "cases", .tup (ps.map fun p => .tup [p.1, p.2]), e]) = _ := os_cases
      have q3 : odI (f + 1) (.tup [.str "cases", .tup (ps.map fun p => .tup [p.1, p.2]), e]) = _ := od_cases
      rw [q1, q2, q3]
      exact opd_lad (fun p hp => ⟨opn_opd (h4 p hp).1 (by omega), opn_opd (h4 p hp).2 (by omega)⟩) (opn_opd h5 (by omega))
/-! the word `opened` at the program's door -/
theorem i1_o : dInK "RULES" ["pushed", "opened", "joined", "lean"] true (.str (Str.ofString "opened")) (.cls "RULES") A = .ok (.bl false) A := by
  simp [dInK]
theorem i2_o : dGetK "RULES" ["pushed", "opened", "joined", "lean"] ["pushed", "opened", "joined", "lean"] (.cls "RULES") (.str (Str.ofString "opened")) A = .ok (.cls "opened") A := by
  have b1 : (Str.ofString "pushed" == Str.ofString "opened") = false := by decide +kernel
  simp [dGetK, List.idxOf_cons, b1]
def oprR (z p : Int) (x : D) (A : List O) : R D := if z ≤ 60 ∧ p ≤ 12 then .ok x A else .ex "TooMany" [("size", .int z)] A
def oprD (z p : Int) (x : D) : D := if z ≤ 60 ∧ p ≤ 12 then .tup [.str "told", x] else .tup [.str "many", .int z]
theorem other_o (h : Dec m n s d) (hn : n ≤ 16) : m_otherwise [d, .str (Str.ofString "opened")] A = oprR (osI 16 d) (odI 16 d) (opnF 16 d) A := by
  have e1 := opened_ok h hn A
  have e2 := opened_size_ok h hn A
  obtain ⟨_, N, S, h2, h3, h4⟩ := opn_opd h hn
  have g1 := great_ok (z := osI 16 d) (p := odI 16 d) (A := A)
  unfold oprR
  have e3 : mCallL 2 [("pushed", m_pushed), ("opened", (m_opened 16)), ("joined", (m_joined 16)), ("lean", (m_lean 16))] (mArgs (mVar 0) mArgs0) [some d, some (.str (Str.ofString "opened")), some (.cls "opened"), none] A = .ok (opnF 16 d) A := by
    simp [mCallL, List.lookup, e1]
  have e0 : fIsi [.str (Str.ofString "opened"), .ty .str] A = .ok (.bl true) A := rfl
  have i1 := i1_o (A := A)
  have i2 := i2_o (A := A)
  by_cases c : osI 16 d ≤ 60 ∧ odI 16 d ≤ 12
  · rw [if_pos c] at g1 ⊢
    have e5 := size_ok h3 (f := 16) (by omega) A
    obtain ⟨q1, q2⟩ := h4 16 (by omega)
    rw [q1, q2] at e5
    generalize opnF 16 d = x at *
    generalize osI 16 d = z at *
    generalize odI 16 d = p at *
    have key : b_otherwise [some d, some (.str (Str.ofString "opened")), none, none] A = .ok (.rt x) A := by
      simp [b_otherwise, e0, i1, i2, g1, e2, e3, e5]
    rw [m_otherwise, runB_rt rfl key, trimR_same]
  · rw [if_neg c] at g1 ⊢
    generalize opnF 16 d = x at *
    generalize osI 16 d = z at *
    generalize odI 16 d = p at *
    have key : b_otherwise [some d, some (.str (Str.ofString "opened")), none, none] A = .ok (.xc "TooMany" [("size", .int z)] [some d, some (.str (Str.ofString "opened")), none, none]) A := by
      simp [b_otherwise, e0, i1, i2, g1, e2]
    exact runB_xc rfl key
theorem told_gen {w x : D} {z p : Int} (ho : m_otherwise [d, w] A = oprR z p x A) : m_law_otherwise_told [d, w] A = .ok (oprD z p x) A := by
  unfold oprR at ho
  unfold oprD
  by_cases h : z ≤ 60 ∧ p ≤ 12
  · rw [if_pos h] at ho ⊢
    have key : b_law_otherwise_told [some d, some w, none, none] A = .ok (.rt (.tup [.str "told", x])) A := by
      simp [b_law_otherwise_told, ho]
    rw [m_law_otherwise_told, runB_rt rfl key, trimR_same]
  · rw [if_neg h] at ho ⊢
    have e4 : dFldL ["TooMany"] "size" (.exc "TooMany" ["size"] [.int z]) A = .ok (.int z) A := by
      simp [dFldL, dFldX, List.lookup]
    have key : b_law_otherwise_told [some d, some w, none, none] A = .ok (.rt (.tup [.str "many", .int z])) A := by
      simp [b_law_otherwise_told, ho, e4]
    rw [m_law_otherwise_told, runB_rt rfl key, trimR_same]
end
end Mb
end
section
set_option Elab.async false
set_option linter.all false
set_option maxRecDepth 100000
set_option maxHeartbeats 400000
namespace Mb
open PySem PySem.Spec L2 Vi
end Mb
end
section
set_option Elab.async false
set_option linter.all false
set_option maxRecDepth 100000
set_option maxHeartbeats 2000000
namespace Vi
open PySem PySem.Spec L2 PyProof.Rows
/-! xs[:-1:2] -/
def pk2 {α : Type} : List α → List α
  | x :: _ :: r => x :: pk2 r
  | _ => []
theorem pk2_len {α : Type} : ∀ l : List α, (pk2 l).length ≤ l.length
  | [] => Nat.le_refl _
  | [_] => Nat.zero_le _
  | _ :: _ :: r => by
    have := pk2_len r
    simp only [pk2, List.length_cons]
    omega
theorem pk2_pick {α : Type} : ∀ l : List α, (List.range (l.length / 2)).filterMap (fun k => l[2 * k]?) = pk2 l
  | [] => by simp [pk2]
  | [_] => by simp [pk2]
  | x :: y :: r => by
    have ih := pk2_pick r
    have e : (x :: y :: r).length / 2 = r.length / 2 + 1 := by simp only [List.length_cons]; omega
    rw [e, List.range_succ_eq_map, List.filterMap_cons]
    show x :: _ = x :: pk2 r
    rw [List.filterMap_map, ← ih]
    rfl
theorem sl2_pick (l : List Value) : (slicePick l.toArray none (some (-1)) (some 2)).toList = pk2 l := by
  rw [← pk2_pick]
  unfold slicePick
  have e : (sliceBounds none (some (-1)) (some 2) l.toArray.size) = (0, max 0 (min (-1 + (l.length : Int)) l.length), 2) := rfl
  rw [e]
  have c : sliceRange 0 (max 0 (min (-1 + (l.length : Int)) l.length)) 2 = (List.range (l.length / 2)).map fun k => 2 * k := by
    unfold sliceRange
    have q : ∀ u : Int, u = max 0 (min (-1 + (l.length : Int)) l.length) → (if 0 < u then (u - 0 + 2 - 1) / 2 else 0).toNat = l.length / 2 := fun u hu => by
      split <;> omega
    have q := q _ rfl
    simp only [show (2 : Int) > 0 by decide, if_true]
    rw [q]
    exact List.map_congr_left fun k _ => by omega
  rw [c, List.filterMap_map]
  simp only [List.getElem?_toArray]
  rfl
theorem Vals_pk2 : ∀ {xs : List V} {vs : List Value}, Vals xs vs → Vals (pk2 xs) (pk2 vs)
  | _, _, .nil => .nil
  | _, _, .cons _ .nil => .nil
  | _, _, .cons a (.cons _ r) => .cons a (Vals_pk2 r)
def tSl2 (K : PySem.W.Frag) (te : TE) : TE := fun σ H Q => te σ H fun x H1 => ∃ a xs, x = .ref a ∧ SqL K H1 a xs ∧ ∀ p, H1 p = none → Q (.ref p) (upd H1 p (.lst (pk2 xs)))
section
variable {X : Cx}
theorem pe_sl2 {e : Expr} {te : TE} {k k2 : Nat} {p1 p2 p3 p4 pos : Pos} (he : PE X e te) : PE X (.Subscript e (.Slice none (some (.UnaryOp .USub (.Constant (.int 1) k p1) p2)) (some (.Constant (.int 2) k2 p4)) p3) pos) (tSl2 X.K te) := by
  refine ⟨fun pins s σ H Q I h => ?_⟩
  refine Subscript_ (thn (he.run pins s σ H _ I h) fun v s1 ⟨x, H1, I1, r1, q1⟩ => ?_)
  obtain ⟨a, xs, ex, hx, q⟩ := q1
  subst ex
  cases r1
  have hhi : PO X (some (.UnaryOp .USub (.Constant (.int 1) k p1) p2)) (tPart (tUn (rU fun i => .int (-i)) (tC (.int 1)))) := po_some (pe_un un_neg pe_int)
  have hst : PO X (some (.Constant (.int 2) k2 p4)) (tPart (tC (.int 2))) := po_some pe_int
  refine wpAny_Slice (thn (po_none.run pins s1 σ H1 (fun o H2 => o = none ∧ H2 = H1) I1 ⟨rfl, rfl⟩) fun vl s2 ⟨l, H2, I2, pl, el, e2⟩ => ?_)
  subst el e2
  refine thn (hhi.run pins s2 σ H2 (fun o H3 => o = some (-1) ∧ H3 = H2) I2 ⟨1, rfl, -1, rfl, rfl, rfl⟩) fun vu s3 ⟨u, H3, I3, pu, eu, e3⟩ => ?_
  subst eu e3
  refine thn (hst.run pins s3 σ H3 (fun o H4 => o = some 2 ∧ H4 = H3) I3 ⟨2, rfl, rfl, rfl⟩) fun vs s4 ⟨o, H4, I4, ps, eo, e4⟩ => ?_
  subst eo e4
  have I5 : Inv X pins σ H4 { s4 with heap := s4.heap.push { cls := .type "slice", data := .fields #[vl, vu, vs] } } := I4.kept (t' := s4.toks) fun b ob q => Heap.get?_push_of_some _ q
  obtain ⟨its, r, ht, hz⟩ := I5.list hx
  have hlen := r.length
  show wpAny (model X.prog X.w) X.A (subscriptTail e (.Slice none (some (.UnaryOp .USub (.Constant (.int 1) k p1) p2)) (some (.Constant (.int 2) k2 p4)) p3) (.ref a) (.ref s4.heap.objs.size)) (EP X pins σ Q) X.xe { s4 with heap := s4.heap.push { cls := .type "slice", data := .fields #[vl, vu, vs] } }
  refine tail_any (ops := [.ref a, .ref s4.heap.objs.size]) ht.isList.typeIs (PySem.slot_list_getitem.lookup) ?_ (by with_unfolding_all rfl)
  refine wpAny_getItem_list_slice ht.isList (Heap.IsSliceOf.new _ vl vu vs) pl pu ps (by decide) ?_ (by rw [List.size_toArray]; omega)
  have hp : slicePick its.toArray none (some (-1)) (some 2) = (pk2 its).toArray := by rw [← sl2_pick]
  rw [hp]
  refine ⟨.ref _, _, I5.laid (t' := s4.toks) (o := .lst (pk2 xs)) (fun b ob q => Heap.get?_push_of_some _ q) (Nat.le_refl _) ?_, rfl, q _ (I5.hok.fresh (Nat.le_refl _))⟩
  exact ⟨Nat.le_trans (pk2_len xs) hz, _, 0, Vals_pk2 r, Heap.get?_push_size _ rfl⟩
end
def dSl2 (fz : Bool) (x : D) (A : List O) : R D := match lstOf x A with
  | some ds => newL fz (pk2 ds) A
  | none => .no
def mSl2 (fz : Bool) (ma : M D) : M D := fun σ A => (ma σ A).bind fun x A => dSl2 fz x A
@[simp ↓] theorem mSl2_e {fz : Bool} {ma : M D} {σ : Env} {A : List O} : mSl2 fz ma σ A = (ma σ A).bind fun x A => dSl2 fz x A := rfl
theorem VRs.sl2 {g : G} {W : Hp} {ρ : List Addr} : ∀ {ds : List D} {vs : List V}, VRs g W ρ ds vs → VRs g W ρ (pk2 ds) (pk2 vs)
  | _, _, .nil => .nil
  | _, _, .cons _ .nil => .nil
  | _, _, .cons r1 (.cons _ r2) => .cons r1 (VRs.sl2 r2)
section
variable {X : Cx} {c : String → Addr} {EX : WX} {e : Expr} {ma : M D} {k k2 : Nat} {p1 p2 p3 p4 pos : Pos}
theorem se_sl2 {fz : Bool} (he : PE X e (tE ⟨X.K, c⟩ EX ma)) : PE X (.Subscript e (.Slice none (some (.UnaryOp .USub (.Constant (.int 1) k p1) p2)) (some (.Constant (.int 2) k2 p4)) p3) pos) (tE ⟨X.K, c⟩ EX (mSl2 fz ma)) :=
  PE.imp (pe_sl2 he) fun σ H Q h => (tM.bind (rel := VR ⟨X.K, c⟩) (m := ma) (f := fun _ x A => dSl2 fz x A) h).weak fun v H1 ⟨W, ρ, A, σd, x, hR, hE, rx, hP⟩ => by
    unfold dSl2 at hP
    split at hP
    · rename_i ds e
      obtain ⟨a, vs, rfl, hq, r2⟩ := lstOf_ok hR rx e
      exact ⟨a, vs, rfl, SqL.of hq, fun p hp => newL_post hR r2.sl2 hP hp⟩
    · exact hP.elim
end
end Vi
end
section
set_option Elab.async false
set_option linter.all false
set_option maxRecDepth 100000
set_option maxHeartbeats 4000000
namespace Lw
open PySem PySem.Spec L2 Vi Mb
noncomputable def b_law_all_parts_1 (r_law_all_parts : List D → List O → R D) : SM :=
  (sSet 1 (m2 (dAdd true) (mVar 1) (mCall r_law_all_parts [] (mArgs (mVar 2) mArgs0))))
noncomputable def b_law_all_parts (r_law_all_parts : List D → List O → R D) : SM :=
  (sSeq (sSet 1 (mA (newL true) (mArgs (mVar 0) mArgs0)))
  (sSeq (sFor (mSrc (mCall m_law_inner [] (mArgs (mVar 0) mArgs0))) (tgN 2)
  (b_law_all_parts_1 r_law_all_parts))
  (sRet (mVar 1))))
noncomputable def m_law_all_parts : Nat → List D → List O → R D
  | 0 => fun _ _ => .no
  | n + 1 => runB 3 (b_law_all_parts (m_law_all_parts n))
noncomputable def b_law_clean : SM :=
  (sSeq (sSet 2 (mCall m_law_inner [] (mArgs (mVar 1) mArgs0)))
  (sSeq (sIf (mBl (m2 dEq (mVar 0) (mC (.str "pushed"))))
  (sRet (mOr (m2 dNe (m2 dIx (mVar 1) (mC (.int 0))) (mC (.str "not"))) (m2 dEq (m2 dIx (m2 dIx (mVar 2) (mC (.int 0))) (mC (.int 0))) (mC (.str "wish")))))
  sPass)
  (sSeq (sIf (mBl (m2 dEq (mVar 0) (mC (.str "opened"))))
  (sRet (m2 dNe (m2 dIx (mVar 1) (mC (.int 0))) (mC (.str "cases"))))
  sPass)
  (sSeq (sIf (mBl (m2 dEq (mVar 0) (mC (.str "joined"))))
  (sSeq (sIf (mBl (m2 (dIn true) (m2 dIx (mVar 1) (mC (.int 0))) (mA (newL true) (mArgs (mC (.str "and")) (mArgs (mC (.str "or")) mArgs0)))))
  (sRet (mC (.bl true)))
  sPass)
  (sSeq (sSet 3 (mA fSum (mArgs (mLc true (mSrc (mVar 2)) (tgN 4) mYes (m2 dIx (mA (newL true) (mArgs (mC (.int 1)) (mArgs (mA fLen (mArgs (mCall m_law_inner [] (mArgs (mVar 4) mArgs0)) mArgs0)) mArgs0))) (mA fInt (mArgs (m2 dEq (m2 dIx (mVar 4) (mC (.int 0))) (m2 dIx (mVar 1) (mC (.int 0)))) mArgs0))) [4]) mArgs0)))
  (sRet (mAnd (m2 dGt (mA fLen (mArgs (mVar 2) mArgs0)) (mC (.int 1))) (mOr (m2 dEq (mVar 3) (mA fLen (mArgs (mVar 2) mArgs0))) (m2 dGt (mVar 3) (mC (.int 6))))))))
  sPass)
  (sSeq (sIf (mBl (m2 (dIn false) (m2 dIx (mVar 1) (mC (.int 0))) (mA (newL true) (mArgs (mC (.str "and")) (mArgs (mC (.str "or")) (mArgs (mC (.str "not")) mArgs0))))))
  (sRet (m2 dEq (mLc true (mSrc (mVar 2)) (tgN 4) (mBl (m2 (dIn false) (m2 dIx (mVar 4) (mC (.int 0))) (mA (newL true) (mArgs (mC (.str "yes")) (mArgs (mC (.str "no")) mArgs0))))) (mVar 4) [4]) (mA (newL true) mArgs0)))
  sPass)
  (sRet (m2 dEq (mLc true (mSrc (mSl2 true (mVar 2))) (tgN 4) (mBl (m2 (dIn false) (m2 dIx (mVar 4) (mC (.int 0))) (mA (newL true) (mArgs (mC (.str "yes")) (mArgs (mC (.str "no")) mArgs0))))) (mVar 4) [4]) (mA (newL true) mArgs0))))))))
noncomputable def m_law_clean : List D → List O → R D := runB 5 b_law_clean
noncomputable def b_law_word_right : SM :=
  (sSeq (sSet 2 (mCall m_law_otherwise_told [] (mArgs (mVar 0) (mArgs (mVar 1) mArgs0))))
  (sSeq (sIf (mBl (m2 dEq (m2 dIx (mVar 2) (mC (.int 0))) (mC (.str "many"))))
  (sRet (mC (.bl true)))
  sPass)
  (sSeq (sIf (mBl (m2 dNe (mLc true (mSrc (mCall (m_law_all_parts 16) [] (mArgs (m2 dIx (mVar 2) (mC (.int 1))) mArgs0))) (tgN 3) (mNotT (mTru (mCall m_law_clean [] (mArgs (mVar 1) (mArgs (mVar 3) mArgs0))))) (mVar 3) [3]) (mA (newL true) mArgs0)))
  (sRet (mC (.bl false)))
  sPass)
  (sRet (m2 dEq (mCall m_law_otherwise_told [] (mArgs (m2 dIx (mVar 2) (mC (.int 1))) (mArgs (mVar 1) mArgs0))) (mVar 2))))))
noncomputable def m_law_word_right : List D → List O → R D := runB 4 b_law_word_right
noncomputable def b_law_1 : SM :=
  (sIf (mNotT (mTru (mCall m_law_word_right [] (mArgs (mVar 4) (mArgs (mVar 6) mArgs0)))))
  (sRet (mC (.bl false)))
  sPass)
noncomputable def b_law_2 : SM :=
  (sFor (mSrc (mA (newL true) (mArgs (mC (.str "pushed")) (mArgs (mC (.str "opened")) (mArgs (mC (.str "joined")) (mArgs (mC (.str "lean")) mArgs0)))))) (tgN 6)
  b_law_1)
noncomputable def b_law_3 : SM :=
  (sSeq (sSet 2 (mCall m_law_pool [] (mArgs (mVar 0) (mArgs (mVar 1) mArgs0))))
  (sSeq (sSet 3 (mCall (m_law_decision 16) [] (mArgs (mVar 2) (mArgs (m2 (dAdd true) (mC (.int 1)) (mCall m_law_take [] (mArgs (mVar 2) (mArgs (mC (.int 5)) mArgs0)))) (mArgs (m2 (dAdd true) (mC (.int 2)) (mCall m_law_take [] (mArgs (mVar 2) (mArgs (mC (.int 40)) mArgs0)))) (mArgs (m2 (dAdd true) (mC (.int 2)) (mCall m_law_take [] (mArgs (mVar 2) (mArgs (mC (.int 8)) mArgs0)))) mArgs0))))))
  (sSeq (sSet 3 (mCall (m_law_strewn 16) [] (mArgs (mVar 2) (mArgs (mVar 3) (mArgs (m2 (dAdd true) (mC (.int 2)) (mCall m_law_take [] (mArgs (mVar 2) (mArgs (mC (.int 9)) mArgs0)))) mArgs0)))))
  (sSeq (sFor (mSrc (mA (newL true) (mArgs (mVar 3) (mArgs (mA fTup (mArgs (mC (.str "not")) (mArgs (mVar 3) mArgs0))) mArgs0)))) (tgN 4)
  b_law_2)
  (sSeq (sSet 5 (mCall m_law_otherwise_told [] (mArgs (mVar 3) (mArgs (mC (.str "pushed")) mArgs0))))
  (sIf (mAndT (mBl (m2 dEq (m2 dIx (mVar 5) (mC (.int 0))) (mC (.str "told")))) (mAndT (mBl (m2 dLt (m2 dIx (mCall (m_law_size 16) [] (mArgs (m2 dIx (mVar 5) (mC (.int 1))) mArgs0)) (mC (.int 0))) (mC (.int 60)))) (mBl (m2 dLt (m2 dIx (mCall (m_law_size 16) [] (mArgs (m2 dIx (mVar 5) (mC (.int 1))) mArgs0)) (mC (.int 1))) (mC (.int 12))))))
  (sIf (mBl (m2 dNe (mCall m_law_otherwise_told [] (mArgs (mA fTup (mArgs (mC (.str "not")) (mArgs (m2 dIx (mVar 5) (mC (.int 1))) mArgs0))) (mArgs (mC (.str "pushed")) mArgs0))) (mCall m_law_otherwise_told [] (mArgs (mA fTup (mArgs (mC (.str "not")) (mArgs (mVar 3) mArgs0))) (mArgs (mC (.str "pushed")) mArgs0)))))
  (sRet (mC (.bl false)))
  sPass)
  sPass))))))
noncomputable def b_law : SM :=
  (sSeq (sFor (mSrcA fRange1 (mArgs (mA fMax2 (mArgs (mC (.int 1)) (mArgs (mA fMin2 (mArgs (mC (.int 20)) (mArgs (mA fLen (mArgs (mVar 0) mArgs0)) mArgs0))) mArgs0))) mArgs0)) (tgN 1)
  b_law_3)
  (sRet (mC (.bl true))))
noncomputable def m_law : List D → List O → R D := runB 7 b_law
end Lw
end
section
set_option Elab.async false
set_option linter.all false
set_option maxRecDepth 100000
set_option maxHeartbeats 4000000
namespace Lw
open PySem PySem.Spec L2 Vi Mb
theorem hu1 {a c : Nat} (h : a + 64 < c) : a + 1 < c := by omega
def topS (i : Nat) : Stmt := PySem.Challenge.pw_eachalone_k75_whole_words_said_twice.main.body.getD i (.Pass ⟨0, 0, 0, 0⟩)
abbrev s_inner_parts : Stmt := topS 8
def n_inner_parts : List Str := ["decision", "found", "test", "told"]
theorem sc_inner_parts : FnScope n_inner_parts ["decision"] (defScope s_inner_parts) := ⟨rfl, rfl, rfl, by decide +kernel, rfl, by decide +kernel, by decide +kernel⟩
abbrev s_rebuilt : Stmt := topS 10
def n_rebuilt : List Str := ["decision", "parts", "rows", "at"]
theorem sc_rebuilt : FnScope n_rebuilt ["decision", "parts"] (defScope s_rebuilt) := ⟨rfl, rfl, rfl, by decide +kernel, rfl, by decide +kernel, by decide +kernel⟩
abbrev s_other_word : Stmt := topS 14
def n_other_word : List Str := ["word"]
theorem sc_other_word : FnScope n_other_word ["word"] (defScope s_other_word) := ⟨rfl, rfl, rfl, by decide +kernel, rfl, by decide +kernel, by decide +kernel⟩
abbrev s_pushed_by : Stmt := topS 15
def n_pushed_by : List Str := ["decision", "about", "word", "rows", "test", "told", "part"]
theorem sc_pushed_by : FnScope n_pushed_by ["decision", "about"] (defScope s_pushed_by) := ⟨rfl, rfl, rfl, by decide +kernel, rfl, by decide +kernel, by decide +kernel⟩
abbrev s_pushed : Stmt := topS 16
def n_pushed : List Str := ["decision"]
theorem sc_pushed : FnScope n_pushed ["decision"] (defScope s_pushed) := ⟨rfl, rfl, rfl, by decide +kernel, rfl, by decide +kernel, by decide +kernel⟩
abbrev s_opened : Stmt := topS 17
def n_opened : List Str := ["decision", "parts", "found", "at", "test", "part"]
theorem sc_opened : FnScope n_opened ["decision"] (defScope s_opened) := ⟨rfl, rfl, rfl, by decide +kernel, rfl, by decide +kernel, by decide +kernel⟩
abbrev s_joined : Stmt := topS 18
def n_joined : List Str := ["decision", "parts", "wide", "part"]
theorem sc_joined : FnScope n_joined ["decision"] (defScope s_joined) := ⟨rfl, rfl, rfl, by decide +kernel, rfl, by decide +kernel, by decide +kernel⟩
abbrev s_lean_cases : Stmt := topS 19
def n_lean_cases : List Str := ["parts", "rows", "last", "at"]
theorem sc_lean_cases : FnScope n_lean_cases ["parts"] (defScope s_lean_cases) := ⟨rfl, rfl, rfl, by decide +kernel, rfl, by decide +kernel, by decide +kernel⟩
abbrev s_lean : Stmt := topS 20
def n_lean : List Str := ["decision", "parts", "word", "left", "idle", "over", "part"]
theorem sc_lean : FnScope n_lean ["decision"] (defScope s_lean) := ⟨rfl, rfl, rfl, by decide +kernel, rfl, by decide +kernel, by decide +kernel⟩
abbrev s_size_of : Stmt := topS 21
def n_size_of : List Str := ["decision", "sizes", "part", "many", "deep"]
theorem sc_size_of : FnScope n_size_of ["decision"] (defScope s_size_of) := ⟨rfl, rfl, rfl, by decide +kernel, rfl, by decide +kernel, by decide +kernel⟩
abbrev s_opened_size : Stmt := topS 22
def n_opened_size : List Str := ["decision", "sizes", "at", "many", "deep", "part", "test", "told"]
theorem sc_opened_size : FnScope n_opened_size ["decision"] (defScope s_opened_size) := ⟨rfl, rfl, rfl, by decide +kernel, rfl, by decide +kernel, by decide +kernel⟩
abbrev s_look_at_great : Stmt := topS 23
def n_look_at_great : List Str := ["size"]
theorem sc_look_at_great : FnScope n_look_at_great ["size"] (defScope s_look_at_great) := ⟨rfl, rfl, rfl, by decide +kernel, rfl, by decide +kernel, by decide +kernel⟩
abbrev s_otherwise : Stmt := topS 25
def n_otherwise : List Str := ["decision", "word", "rule", "found"]
theorem sc_otherwise : FnScope n_otherwise ["decision", "word"] (defScope s_otherwise) := ⟨rfl, rfl, rfl, by decide +kernel, rfl, by decide +kernel, by decide +kernel⟩
abbrev s_law_pool : Stmt := topS 27
def n_law_pool : List Str := ["_law_script", "_law_k", "_law_cell", "_law_seed"]
theorem sc_law_pool : FnScope n_law_pool ["_law_script", "_law_k"] (defScope s_law_pool) := ⟨rfl, rfl, rfl, by decide +kernel, rfl, by decide +kernel, by decide +kernel⟩
abbrev s_law_take : Stmt := topS 28
def n_law_take : List Str := ["_law_pool_here", "_law_many", "_law_digit"]
theorem sc_law_take : FnScope n_law_take ["_law_pool_here", "_law_many"] (defScope s_law_take) := ⟨rfl, rfl, rfl, by decide +kernel, rfl, by decide +kernel, by decide +kernel⟩
abbrev s_law_decision : Stmt := topS 29
def n_law_decision : List Str := ["_law_pool_here", "_law_many", "_law_room", "_law_deep", "_law_way", "_law_size_here", "_law_each", "_law_rows", "_law_k", "_law_some", "_law_test"]
theorem sc_law_decision : FnScope n_law_decision ["_law_pool_here", "_law_many", "_law_room", "_law_deep"] (defScope s_law_decision) := ⟨rfl, rfl, rfl, by decide +kernel, rfl, by decide +kernel, by decide +kernel⟩
abbrev s_law_inner : Stmt := topS 30
def n_law_inner : List Str := ["_law_decision_here", "_law_found", "_law_test", "_law_told"]
theorem sc_law_inner : FnScope n_law_inner ["_law_decision_here"] (defScope s_law_inner) := ⟨rfl, rfl, rfl, by decide +kernel, rfl, by decide +kernel, by decide +kernel⟩
abbrev s_law_put : Stmt := topS 31
def n_law_put : List Str := ["_law_decision_here", "_law_parts", "_law_rows", "_law_at"]
theorem sc_law_put : FnScope n_law_put ["_law_decision_here", "_law_parts"] (defScope s_law_put) := ⟨rfl, rfl, rfl, by decide +kernel, rfl, by decide +kernel, by decide +kernel⟩
abbrev s_law_strewn : Stmt := topS 32
def n_law_strewn : List Str := ["_law_pool_here", "_law_decision_here", "_law_rare", "_law_part"]
theorem sc_law_strewn : FnScope n_law_strewn ["_law_pool_here", "_law_decision_here", "_law_rare"] (defScope s_law_strewn) := ⟨rfl, rfl, rfl, by decide +kernel, rfl, by decide +kernel, by decide +kernel⟩
abbrev s_law_size : Stmt := topS 33
def n_law_size : List Str := ["_law_decision_here", "_law_many", "_law_deep", "_law_part", "_law_size_here"]
theorem sc_law_size : FnScope n_law_size ["_law_decision_here"] (defScope s_law_size) := ⟨rfl, rfl, rfl, by decide +kernel, rfl, by decide +kernel, by decide +kernel⟩
abbrev s_law_otherwise_told : Stmt := topS 34
def n_law_otherwise_told : List Str := ["_law_decision_here", "_law_word", "_law_found", "e"]
theorem sc_law_otherwise_told : FnScope n_law_otherwise_told ["_law_decision_here", "_law_word"] (defScope s_law_otherwise_told) := ⟨rfl, rfl, rfl, by decide +kernel, rfl, by decide +kernel, by decide +kernel⟩
abbrev s_law_all_parts : Stmt := topS 35
def n_law_all_parts : List Str := ["_law_decision_here", "_law_found", "_law_part"]
theorem sc_law_all_parts : FnScope n_law_all_parts ["_law_decision_here"] (defScope s_law_all_parts) := ⟨rfl, rfl, rfl, by decide +kernel, rfl, by decide +kernel, by decide +kernel⟩
abbrev s_law_clean : Stmt := topS 36
def n_law_clean : List Str := ["_law_word", "_law_decision_here", "_law_some", "_law_wide", "_law_part"]
theorem sc_law_clean : FnScope n_law_clean ["_law_word", "_law_decision_here"] (defScope s_law_clean) := ⟨rfl, rfl, rfl, by decide +kernel, rfl, by decide +kernel, by decide +kernel⟩
abbrev s_law_word_right : Stmt := topS 37
def n_law_word_right : List Str := ["_law_drawn", "_law_word", "_law_told", "_law_part"]
theorem sc_law_word_right : FnScope n_law_word_right ["_law_drawn", "_law_word"] (defScope s_law_word_right) := ⟨rfl, rfl, rfl, by decide +kernel, rfl, by decide +kernel, by decide +kernel⟩
abbrev s_law : Stmt := topS 38
def n_law : List Str := ["_law_script", "_law_k", "_law_pool_here", "_law_drawn", "_law_thing", "_law_once", "_law_word"]
theorem sc_law : FnScope n_law ["_law_script"] (defScope s_law) := ⟨rfl, rfl, rfl, by decide +kernel, rfl, by decide +kernel, by decide +kernel⟩
abbrev sx_TooMany : Stmt := inClass (topS 2) 0
theorem scx_TooMany : FnScope ["self", "size"] ["self", "size"] (defScope sx_TooMany) := ⟨rfl, rfl, rfl, by decide +kernel, rfl, by decide +kernel, by decide +kernel⟩
structure Ad where
  fx_TooMany : Addr
  fdx_TooMany : FuncData
  f_inner_parts : Addr
  fd_inner_parts : FuncData
  f_rebuilt : Addr
  fd_rebuilt : FuncData
  f_other_word : Addr
  fd_other_word : FuncData
  f_pushed_by : Addr
  fd_pushed_by : FuncData
  f_pushed : Addr
  fd_pushed : FuncData
  f_opened : Addr
  fd_opened : FuncData
  f_joined : Addr
  fd_joined : FuncData
  f_lean_cases : Addr
  fd_lean_cases : FuncData
  f_lean : Addr
  fd_lean : FuncData
  f_size_of : Addr
  fd_size_of : FuncData
  f_opened_size : Addr
  fd_opened_size : FuncData
  f_look_at_great : Addr
  fd_look_at_great : FuncData
  f_otherwise : Addr
  fd_otherwise : FuncData
  f_law_pool : Addr
  fd_law_pool : FuncData
  f_law_take : Addr
  fd_law_take : FuncData
  f_law_decision : Addr
  fd_law_decision : FuncData
  f_law_inner : Addr
  fd_law_inner : FuncData
  f_law_put : Addr
  fd_law_put : FuncData
  f_law_strewn : Addr
  fd_law_strewn : FuncData
  f_law_size : Addr
  fd_law_size : FuncData
  f_law_otherwise_told : Addr
  fd_law_otherwise_told : FuncData
  f_law_all_parts : Addr
  fd_law_all_parts : FuncData
  f_law_clean : Addr
  fd_law_clean : FuncData
  f_law_word_right : Addr
  fd_law_word_right : FuncData
  f_law : Addr
  fd_law : FuncData
structure Tx (K : PySem.W.Frag) (w : World) (mg : Str → Option Value) (c : String → Addr) (a : Ad) : Prop where
  F_inner_parts : FunX K "inner_parts" "inner_parts" s_inner_parts a.f_inner_parts a.fd_inner_parts
  b_inner_parts : Binds K a.fd_inner_parts ["decision"] []
  F_rebuilt : FunX K "rebuilt" "rebuilt" s_rebuilt a.f_rebuilt a.fd_rebuilt
  b_rebuilt : Binds K a.fd_rebuilt ["decision", "parts"] []
  F_other_word : FunX K "other_word" "other_word" s_other_word a.f_other_word a.fd_other_word
  b_other_word : Binds K a.fd_other_word ["word"] []
  F_pushed_by : FunX K "pushed_by" "pushed_by" s_pushed_by a.f_pushed_by a.fd_pushed_by
  b_pushed_by : Binds K a.fd_pushed_by ["decision", "about"] []
  F_pushed : FunX K "pushed" "pushed" s_pushed a.f_pushed a.fd_pushed
  b_pushed : Binds K a.fd_pushed ["decision"] []
  F_opened : FunX K "opened" "opened" s_opened a.f_opened a.fd_opened
  b_opened : Binds K a.fd_opened ["decision"] []
  F_joined : FunX K "joined" "joined" s_joined a.f_joined a.fd_joined
  b_joined : Binds K a.fd_joined ["decision"] []
  F_lean_cases : FunX K "lean_cases" "lean_cases" s_lean_cases a.f_lean_cases a.fd_lean_cases
  b_lean_cases : Binds K a.fd_lean_cases ["parts"] []
  F_lean : FunX K "lean" "lean" s_lean a.f_lean a.fd_lean
  b_lean : Binds K a.fd_lean ["decision"] []
  F_size_of : FunX K "size_of" "size_of" s_size_of a.f_size_of a.fd_size_of
  b_size_of : Binds K a.fd_size_of ["decision"] []
  F_opened_size : FunX K "opened_size" "opened_size" s_opened_size a.f_opened_size a.fd_opened_size
  b_opened_size : Binds K a.fd_opened_size ["decision"] []
  F_look_at_great : FunX K "look_at_great" "look_at_great" s_look_at_great a.f_look_at_great a.fd_look_at_great
  b_look_at_great : Binds K a.fd_look_at_great ["size"] []
  F_otherwise : FunX K "otherwise" "otherwise" s_otherwise a.f_otherwise a.fd_otherwise
  b_otherwise : Binds K a.fd_otherwise ["decision", "word"] []
  F_law_pool : FunX K "_law_pool" "_law_pool" s_law_pool a.f_law_pool a.fd_law_pool
  b_law_pool : Binds K a.fd_law_pool ["_law_script", "_law_k"] []
  F_law_take : FunX K "_law_take" "_law_take" s_law_take a.f_law_take a.fd_law_take
  b_law_take : Binds K a.fd_law_take ["_law_pool_here", "_law_many"] []
  F_law_decision : FunX K "_law_decision" "_law_decision" s_law_decision a.f_law_decision a.fd_law_decision
  b_law_decision : Binds K a.fd_law_decision ["_law_pool_here", "_law_many", "_law_room", "_law_deep"] []
  F_law_inner : FunX K "_law_inner" "_law_inner" s_law_inner a.f_law_inner a.fd_law_inner
  b_law_inner : Binds K a.fd_law_inner ["_law_decision_here"] []
  F_law_put : FunX K "_law_put" "_law_put" s_law_put a.f_law_put a.fd_law_put
  b_law_put : Binds K a.fd_law_put ["_law_decision_here", "_law_parts"] []
  F_law_strewn : FunX K "_law_strewn" "_law_strewn" s_law_strewn a.f_law_strewn a.fd_law_strewn
  b_law_strewn : Binds K a.fd_law_strewn ["_law_pool_here", "_law_decision_here", "_law_rare"] []
  F_law_size : FunX K "_law_size" "_law_size" s_law_size a.f_law_size a.fd_law_size
  b_law_size : Binds K a.fd_law_size ["_law_decision_here"] []
  F_law_otherwise_told : FunX K "_law_otherwise_told" "_law_otherwise_told" s_law_otherwise_told a.f_law_otherwise_told a.fd_law_otherwise_told
  b_law_otherwise_told : Binds K a.fd_law_otherwise_told ["_law_decision_here", "_law_word"] []
  F_law_all_parts : FunX K "_law_all_parts" "_law_all_parts" s_law_all_parts a.f_law_all_parts a.fd_law_all_parts
  b_law_all_parts : Binds K a.fd_law_all_parts ["_law_decision_here"] []
  F_law_clean : FunX K "_law_clean" "_law_clean" s_law_clean a.f_law_clean a.fd_law_clean
  b_law_clean : Binds K a.fd_law_clean ["_law_word", "_law_decision_here"] []
  F_law_word_right : FunX K "_law_word_right" "_law_word_right" s_law_word_right a.f_law_word_right a.fd_law_word_right
  b_law_word_right : Binds K a.fd_law_word_right ["_law_drawn", "_law_word"] []
  F_law : FunX K "law" "law" s_law a.f_law a.fd_law
  b_law : Binds K a.fd_law ["_law_script"] []
  R_NoWord : RzX K mg c "NoWord" "NoWord"
  FX_TooMany : FunX K "__init__" "TooMany.__init__" sx_TooMany a.fx_TooMany a.fdx_TooMany
  XC_TooMany : XcC K mg c "TooMany" "TooMany" a.fx_TooMany ["size"]
  xb_TooMany : Binds K a.fdx_TooMany ["self", "size"] []
  IB_AloneError : InitC K (c "AloneError")
  xr_size : ∀ C ∈ ["TooMany"], IsC K (c C) ∧ PySem.W.findIn K (.ref (c C)) "size" = some none
  gx_AloneError : mg "AloneError" = some (.ref (c "AloneError"))
  gx_TooMany : mg "TooMany" = some (.ref (c "TooMany"))
  em_TooMany : ∀ C ∈ ["TooMany"], PySem.W.exmOne K (.ref (c C)) (.ref (c "TooMany")) = some true
  g_law_all_parts : mg "_law_all_parts" = some (.ref a.f_law_all_parts)
  g_law_clean : mg "_law_clean" = some (.ref a.f_law_clean)
  g_law_decision : mg "_law_decision" = some (.ref a.f_law_decision)
  g_law_inner : mg "_law_inner" = some (.ref a.f_law_inner)
  g_law_otherwise_told : mg "_law_otherwise_told" = some (.ref a.f_law_otherwise_told)
  g_law_pool : mg "_law_pool" = some (.ref a.f_law_pool)
  g_law_put : mg "_law_put" = some (.ref a.f_law_put)
  g_law_size : mg "_law_size" = some (.ref a.f_law_size)
  g_law_strewn : mg "_law_strewn" = some (.ref a.f_law_strewn)
  g_law_take : mg "_law_take" = some (.ref a.f_law_take)
  g_law_word_right : mg "_law_word_right" = some (.ref a.f_law_word_right)
  g_inner_parts : mg "inner_parts" = some (.ref a.f_inner_parts)
  g_joined : mg "joined" = some (.ref a.f_joined)
  g_lean : mg "lean" = some (.ref a.f_lean)
  g_lean_cases : mg "lean_cases" = some (.ref a.f_lean_cases)
  g_look_at_great : mg "look_at_great" = some (.ref a.f_look_at_great)
  g_opened : mg "opened" = some (.ref a.f_opened)
  g_opened_size : mg "opened_size" = some (.ref a.f_opened_size)
  g_other_word : mg "other_word" = some (.ref a.f_other_word)
  g_otherwise : mg "otherwise" = some (.ref a.f_otherwise)
  g_pushed_by : mg "pushed_by" = some (.ref a.f_pushed_by)
  g_rebuilt : mg "rebuilt" = some (.ref a.f_rebuilt)
  g_size_of : mg "size_of" = some (.ref a.f_size_of)
  z_int : mg "int" = none
  z_isinstance : mg "isinstance" = none
  z_len : mg "len" = none
  z_list : mg "list" = none
  z_max : mg "max" = none
  z_min : mg "min" = none
  z_range : mg "range" = none
  z_str : mg "str" = none
  z_sum : mg "sum" = none
  z_tuple : mg "tuple" = none
  t_NO : ∃ a, mg "NO" = some (.ref a) ∧ ∀ H, SqT K H a [(V.str "no")]
  t_YES : ∃ a, mg "YES" = some (.ref a) ∧ ∀ H, SqT K H a [(V.str "yes")]
  gd_RULES : mg "RULES" = some (.ref (c "RULES"))
  D_RULES : DefT K w c "RULES" ["pushed", "opened", "joined", "lean"] ["pushed", "opened", "joined", "lean"]
  e_pushed : a.f_pushed = c "pushed"
  e_opened : a.f_opened = c "opened"
  e_joined : a.f_joined = c "joined"
  e_lean : a.f_lean = c "lean"
  k_DEEPEST : ∃ t, mg "DEEPEST" = some (.int 12 t)
  k_MOST_PARTS : ∃ t, mg "MOST_PARTS" = some (.int 60 t)
  k_MOST_WITHIN : ∃ t, mg "MOST_WITHIN" = some (.int 6 t)
section
variable {P : Program} {w : World} {K : PySem.W.Frag} {mg : Str → Option Value} {base : Heap} {c : String → Addr} {a : Ad}
theorem xi_TooMany (T : Tx K w mg c a) : FnOk P w K mg base (L2.CX P w) 1 a.fx_TooMany a.fdx_TooMany ["self", "size"] (spI (c "TooMany") ["size"]) := init1 (k := 0) T.FX_TooMany T.XC_TooMany scx_TooMany fun cdv A outer s H E => (pss_cons (ps_expr (pe_clinit T.IB_AloneError (by rfl) T.gx_AloneError (pa_cons (pe_var (i := 0) rfl (by first | exact Or.inl rfl | exact Or.inr (Or.inl rfl) | exact Or.inr (Or.inr rfl))) (pa_cons pe_str pa_nil)))) (pss_one (ps_ost (pe_var (i := 0) rfl (by first | exact Or.inl rfl | exact Or.inr (Or.inl rfl) | exact Or.inr (Or.inr rfl))) (pe_var (i := 1) rfl (by first | exact Or.inl rfl | exact Or.inr (Or.inl rfl) | exact Or.inr (Or.inr rfl))))))
theorem ok_inner_parts (T : Tx K w mg c a) : FnG P w K mg base 1 a.f_inner_parts a.fd_inner_parts ["decision"] (spG ⟨K, c⟩ 1 m_inner_parts) := by
  refine fnG_run (k := 0) T.F_inner_parts sc_inner_parts rfl fun X EX hX tk => ?_
  obtain ⟨cdv, A, outer, s, H, E, rfl, hr, rfl⟩ := hX
  exact (ss_cons (ss_if (st_cmp (op_eqS hr.room.units) os_eq (se_ix (se_var 0) se_int) se_str)
  (ss_one (ss_ret (se_lst (fz := true) (sa_cons (se_ix (se_var 0) se_int) sa_nil))))
  ss_nil)
  (ss_cons (ss_if (st_cmp op_inX os_in (se_ix (se_var 0) se_int) (se_tup (sa_cons se_str (sa_cons se_str sa_nil))))
  (ss_one (ss_ret (se_callTy call_list_of (cs_listOf (fz := true)) (by rfl) T.z_list bt_list (sa_cons (se_ix (se_var 0) se_int) sa_nil))))
  ss_nil)
  (ss_cons (ss_if (st_cmp (op_eqS hr.room.units) os_eq (se_ix (se_var 0) se_int) se_str)
  (ss_cons (ss_set (i := 1) sc_inner_parts.nd rfl (by first | exact Or.inl rfl | exact Or.inr rfl) (se_lst (fz := false) sa_nil))
  (ss_cons (ss_for (vs := [2, 3]) (passes_of rfl) rfl (si_any (se_ix (se_var 0) se_int)) (sg_tup rfl (sgs_cons (sg_name (vs := [2, 3]) (i := 2) sc_inner_parts.nd rfl (by first | exact Or.inl rfl | exact Or.inr rfl)) (sgs_cons (sg_name (vs := [2, 3]) (i := 3) sc_inner_parts.nd rfl (by first | exact Or.inl rfl | exact Or.inr rfl)) sgs_nil)))
  (ss_one (ss_expr (se_bm PySem.F.plainAttrs_list PySem.F.slot_list_extend PySem.F.type_list_extend mt_extend ty_list ms_extend (se_var 1) (sa_cons (se_lst (fz := true) (sa_cons (se_var 2) (sa_cons (se_var 3) sa_nil))) sa_nil) (pe_bm PySem.F.plainAttrs_list PySem.F.slot_list_extend PySem.F.type_list_extend mt_extend (se_var 1) (sa_cons (se_lst (fz := true) (sa_cons (se_var 2) (sa_cons (se_var 3) sa_nil))) sa_nil))))))
  (ss_one (ss_ret (se_op op_addD (os_add (fz := true)) (se_var 1) (se_lst (fz := true) (sa_cons (se_ix (se_var 0) se_int) sa_nil)))))))
  ss_nil)
  (ss_one (ss_ret (se_lst (fz := true) sa_nil))))))
theorem ok_rebuilt (T : Tx K w mg c a) : FnG P w K mg base 1 a.f_rebuilt a.fd_rebuilt ["decision", "parts"] (spG ⟨K, c⟩ 2 m_rebuilt) := by
  refine fnG_run (k := 0) T.F_rebuilt sc_rebuilt rfl fun X EX hX tk => ?_
  obtain ⟨cdv, A, outer, s, H, E, rfl, hr, rfl⟩ := hX
  exact (ss_cons (ss_if (st_cmp (op_eqS hr.room.units) os_eq (se_ix (se_var 0) se_int) se_str)
  (ss_one (ss_ret (se_tup (sa_cons se_str (sa_cons (se_ix (se_var 1) se_int) sa_nil)))))
  ss_nil)
  (ss_cons (ss_if (st_cmp op_inX os_in (se_ix (se_var 0) se_int) (se_tup (sa_cons se_str (sa_cons se_str sa_nil))))
  (ss_one (ss_ret (se_tup (sa_cons (se_ix (se_var 0) se_int) (sa_cons (se_callTy call_tuple_of cs_tupOf (by rfl) T.z_tuple bt_tuple (sa_cons (se_var 1) sa_nil)) sa_nil)))))
  ss_nil)
  (ss_cons (ss_if (st_cmp (op_eqS hr.room.units) os_eq (se_ix (se_var 0) se_int) se_str)
  (ss_cons (ss_setLc (own := [("at", 3)]) (fz := true) (i := 2) rfl sc_rebuilt.nd rfl rfl (sw_true rfl rfl rfl (by decide +kernel)) (si_range3 (by rfl) T.z_range (sa_cons se_int (sa_cons (se_op op_sub os_sub (se_callB call_len cs_len (by rfl) T.z_len bt_len (sa_cons (se_var 1) sa_nil)) se_int) (sa_cons se_int sa_nil)))) (by refine blkOk_by ?_; show blkC n_rebuilt (defScope s_rebuilt) _ _ = true; decide +kernel) (fun _ _ _ _ _ => (sg_name (vs := [3]) (i := 3) sc_rebuilt.nd rfl (by first | exact Or.inl rfl | exact Or.inr rfl))) (fun _ _ _ _ _ => sts_nil) (fun _ _ _ _ _ => (se_tup (sa_cons (se_ix (se_var 1) (se_var 3)) (sa_cons (se_ix (se_var 1) (se_op op_addD (os_add (fz := true)) (se_var 3) se_int)) sa_nil)))))
  (ss_one (ss_ret (se_tup (sa_cons se_str (sa_cons (se_callTy call_tuple_of cs_tupOf (by rfl) T.z_tuple bt_tuple (sa_cons (se_var 2) sa_nil)) (sa_cons (se_ix (se_var 1) (se_un un_neg us_neg se_int)) sa_nil)))))))
  ss_nil)
  (ss_one (ss_ret (se_var 0))))))
theorem ok_other_word (T : Tx K w mg c a) : FnG P w K mg base 1 a.f_other_word a.fd_other_word ["word"] (spG ⟨K, c⟩ 1 m_other_word) := by
  refine fnG_run (k := 0) T.F_other_word sc_other_word rfl fun X EX hX tk => ?_
  obtain ⟨cdv, A, outer, s, H, E, rfl, hr, rfl⟩ := hX
  exact (ss_one (ss_ret (se_getT (hu1 hr.room.units) (se_dispS [("and", "or"), ("or", "and"), ("yes", "no"), ("no", "yes")] (pps_cons pe_str pe_str (pps_cons pe_str pe_str (pps_cons pe_str pe_str (pps_cons pe_str pe_str pps_nil)))) rfl rfl (by simp) (by decide) (by decide) (by decide)) (se_var 0))))
theorem st_pushed_by {k : Nat} (hk : 1 ≤ k) {r_pushed_by : List D → List O → R D} (T : Tx K w mg c a) (G_pushed_by : FnG P w K mg base k a.f_pushed_by a.fd_pushed_by ["decision", "about"] (spG ⟨K, c⟩ 2 r_pushed_by)) : FnG P w K mg base (k + 1) a.f_pushed_by a.fd_pushed_by ["decision", "about"] (spG ⟨K, c⟩ 2 (runB n_pushed_by.length (b_pushed_by r_pushed_by))) := by
  refine fnG_run T.F_pushed_by sc_pushed_by rfl fun X EX hX tk => ?_
  obtain ⟨cdv, A, outer, s, H, E, rfl, hr, rfl⟩ := hX
  exact (ss_cons (ss_set (i := 2) sc_pushed_by.nd rfl (by first | exact Or.inl rfl | exact Or.inr rfl) (se_ix (se_var 0) se_int))
  (ss_cons (ss_if (st_cmp (op_eqS hr.room.units) os_eq (se_var 2) se_str)
  (ss_one (ss_ret (se_ite (st_val (se_var 1)) (se_tup (sa_cons se_str (sa_cons (se_var 0) sa_nil))) (se_var 0))))
  ss_nil)
  (ss_cons (ss_if (st_cmp (op_eqS hr.room.units) os_eq (se_var 2) se_str)
  (ss_one (ss_ret (se_call (G_pushed_by.mono (by omega)) hr (by rfl) T.g_pushed_by T.F_pushed_by.kp T.b_pushed_by .nil (fun _ _ => .nil) rfl tk (sa_cons (se_ix (se_var 0) se_int) (sa_cons (se_not (se_var 1)) sa_nil)) (mArgs_len (mArgs_len (fun _ _ _ _ h => mArgs0_len h))))))
  ss_nil)
  (ss_cons (ss_if (st_cmp (op_eqS hr.room.units) os_eq (se_var 2) se_str)
  (ss_cons (ss_setLc (own := [("test", 4), ("told", 5)]) (fz := true) (i := 3) rfl sc_pushed_by.nd rfl rfl (sw_true rfl rfl rfl (by decide +kernel)) (si_any (se_ix (se_var 0) se_int)) (by refine blkOk_by ?_; show blkC n_pushed_by (defScope s_pushed_by) _ _ = true; decide +kernel) (fun _ _ _ _ _ => (sg_tup rfl (sgs_cons (sg_name (vs := [4, 5]) (i := 4) sc_pushed_by.nd rfl (by first | exact Or.inl rfl | exact Or.inr rfl)) (sgs_cons (sg_name (vs := [4, 5]) (i := 5) sc_pushed_by.nd rfl (by first | exact Or.inl rfl | exact Or.inr rfl)) sgs_nil)))) (fun _ _ _ _ _ => sts_nil) (fun _ _ _ _ _ => (se_tup (sa_cons (se_call (G_pushed_by.mono (by omega)) hr (by rfl) T.g_pushed_by T.F_pushed_by.kp T.b_pushed_by .nil (fun _ _ => .nil) rfl takes0 (sa_cons (se_var 4) (sa_cons se_bl sa_nil)) (mArgs_len (mArgs_len (fun _ _ _ _ h => mArgs0_len h)))) (sa_cons (se_call (G_pushed_by.mono (by omega)) hr (by rfl) T.g_pushed_by T.F_pushed_by.kp T.b_pushed_by .nil (fun _ _ => .nil) rfl takes0 (sa_cons (se_var 5) (sa_cons (se_var 1) sa_nil)) (mArgs_len (mArgs_len (fun _ _ _ _ h => mArgs0_len h)))) sa_nil)))))
  (ss_one (ss_ret (se_tup (sa_cons se_str (sa_cons (se_callTy call_tuple_of cs_tupOf (by rfl) T.z_tuple bt_tuple (sa_cons (se_var 3) sa_nil)) (sa_cons (se_call (G_pushed_by.mono (by omega)) hr (by rfl) T.g_pushed_by T.F_pushed_by.kp T.b_pushed_by .nil (fun _ _ => .nil) rfl tk (sa_cons (se_ix (se_var 0) se_int) (sa_cons (se_var 1) sa_nil)) (mArgs_len (mArgs_len (fun _ _ _ _ h => mArgs0_len h)))) sa_nil)))))))
  ss_nil)
  (ss_cons (ss_if (st_val (se_var 1))
  (ss_one (ss_set (i := 2) sc_pushed_by.nd rfl (by first | exact Or.inl rfl | exact Or.inr rfl) (se_call ((ok_other_word T).mono (by omega)) hr (by rfl) T.g_other_word T.F_other_word.kp T.b_other_word .nil (fun _ _ => .nil) rfl tk (sa_cons (se_var 2) sa_nil) (mArgs_len (fun _ _ _ _ h => mArgs0_len h)))))
  ss_nil)
  (ss_cons (ss_if (st_cmp op_inX os_in (se_var 2) (se_tup (sa_cons se_str (sa_cons se_str sa_nil))))
  (ss_one (ss_ret (se_tup (sa_cons (se_var 2) sa_nil))))
  ss_nil)
  (ss_one (ss_ret (se_tup (sa_cons (se_var 2) (sa_cons (se_callTy call_tuple_of cs_tupOf (by rfl) T.z_tuple bt_tuple (sa_cons (se_lc (own := [("part", 6)]) (fz := true) rfl sc_pushed_by.nd (si_any (se_ix (se_var 0) se_int)) (by refine blkOk_by ?_; show blkC n_pushed_by (defScope s_pushed_by) _ _ = true; decide +kernel) (fun _ _ _ _ _ => (sg_name (vs := [6]) (i := 6) sc_pushed_by.nd rfl (by first | exact Or.inl rfl | exact Or.inr rfl))) (fun _ _ _ _ _ => sts_nil) (fun _ _ _ _ _ => (se_call (G_pushed_by.mono (by omega)) hr (by rfl) T.g_pushed_by T.F_pushed_by.kp T.b_pushed_by .nil (fun _ _ => .nil) rfl takes0 (sa_cons (se_var 6) (sa_cons (se_var 1) sa_nil)) (mArgs_len (mArgs_len (fun _ _ _ _ h => mArgs0_len h)))))) sa_nil)) sa_nil)))))))))))
theorem ok_pushed_by (T : Tx K w mg c a) : ∀ n, FnG P w K mg base (1 + n) a.f_pushed_by a.fd_pushed_by ["decision", "about"] (spG ⟨K, c⟩ 2 (m_pushed_by n))
  | 0 => fnG_no
  | n + 1 => st_pushed_by (Nat.le_add_right _ _) T (ok_pushed_by T n)
theorem ok_pushed (T : Tx K w mg c a) : FnG P w K mg base 18 a.f_pushed a.fd_pushed ["decision"] (spG ⟨K, c⟩ 1 m_pushed) := by
  refine fnG_run (k := 17) T.F_pushed sc_pushed rfl fun X EX hX tk => ?_
  obtain ⟨cdv, A, outer, s, H, E, rfl, hr, rfl⟩ := hX
  exact (ss_one (ss_ret (se_call ((ok_pushed_by T 16).mono (by decide)) hr (by rfl) T.g_pushed_by T.F_pushed_by.kp T.b_pushed_by .nil (fun _ _ => .nil) rfl tk (sa_cons (se_var 0) (sa_cons se_bl sa_nil)) (mArgs_len (mArgs_len (fun _ _ _ _ h => mArgs0_len h))))))
theorem st_opened {k : Nat} (hk : 1 ≤ k) {r_opened : List D → List O → R D} (T : Tx K w mg c a) (G_opened : FnG P w K mg base k a.f_opened a.fd_opened ["decision"] (spG ⟨K, c⟩ 1 r_opened)) : FnG P w K mg base (k + 1) a.f_opened a.fd_opened ["decision"] (spG ⟨K, c⟩ 1 (runB n_opened.length (b_opened r_opened))) := by
  refine fnG_run T.F_opened sc_opened rfl fun X EX hX tk => ?_
  obtain ⟨cdv, A, outer, s, H, E, rfl, hr, rfl⟩ := hX
  exact (ss_cons (ss_setLc (own := [("part", 5)]) (fz := true) (i := 1) rfl sc_opened.nd rfl rfl (sw_true rfl rfl rfl (by decide +kernel)) (si_any (se_call ((ok_inner_parts T).mono (by omega)) hr (by rfl) T.g_inner_parts T.F_inner_parts.kp T.b_inner_parts .nil (fun _ _ => .nil) rfl tk (sa_cons (se_var 0) sa_nil) (mArgs_len (fun _ _ _ _ h => mArgs0_len h)))) (by refine blkOk_by ?_; show blkC n_opened (defScope s_opened) _ _ = true; decide +kernel) (fun _ _ _ _ _ => (sg_name (vs := [5]) (i := 5) sc_opened.nd rfl (by first | exact Or.inl rfl | exact Or.inr rfl))) (fun _ _ _ _ _ => sts_nil) (fun _ _ _ _ _ => (se_call (G_opened.mono (by omega)) hr (by rfl) T.g_opened T.F_opened.kp T.b_opened .nil (fun _ _ => .nil) rfl takes0 (sa_cons (se_var 5) sa_nil) (mArgs_len (fun _ _ _ _ h => mArgs0_len h)))))
  (ss_cons (ss_if (st_cmp (op_neS hr.room.units) os_ne (se_ix (se_var 0) se_int) se_str)
  (ss_one (ss_ret (se_call ((ok_rebuilt T).mono (by omega)) hr (by rfl) T.g_rebuilt T.F_rebuilt.kp T.b_rebuilt .nil (fun _ _ => .nil) rfl tk (sa_cons (se_var 0) (sa_cons (se_var 1) sa_nil)) (mArgs_len (mArgs_len (fun _ _ _ _ h => mArgs0_len h))))))
  ss_nil)
  (ss_cons (ss_set (i := 2) sc_opened.nd rfl (by first | exact Or.inl rfl | exact Or.inr rfl) (se_ix (se_var 1) (se_un un_neg us_neg se_int)))
  (ss_cons (ss_for (vs := [3]) (passes_of rfl) rfl (si_range3 (by rfl) T.z_range (sa_cons (se_op op_sub os_sub (se_callB call_len cs_len (by rfl) T.z_len bt_len (sa_cons (se_var 1) sa_nil)) se_int) (sa_cons (se_un un_neg us_neg se_int) (sa_cons (se_un un_neg us_neg se_int) sa_nil)))) (sg_name (vs := [3]) (i := 3) sc_opened.nd rfl (by first | exact Or.inl rfl | exact Or.inr rfl))
  (ss_cons (ss_set (i := 4) sc_opened.nd rfl (by first | exact Or.inl rfl | exact Or.inr rfl) (se_ix (se_var 1) (se_var 3)))
  (ss_one (ss_set (i := 2) sc_opened.nd rfl (by first | exact Or.inl rfl | exact Or.inr rfl) (se_tup (sa_cons se_str (sa_cons (se_tup (sa_cons (se_tup (sa_cons se_str (sa_cons (se_tup (sa_cons (se_var 4) (sa_cons (se_ix (se_var 1) (se_op op_addD (os_add (fz := true)) (se_var 3) se_int)) sa_nil))) sa_nil))) (sa_cons (se_tup (sa_cons se_str (sa_cons (se_tup (sa_cons (se_tup (sa_cons se_str (sa_cons (se_var 4) sa_nil))) (sa_cons (se_var 2) sa_nil))) sa_nil))) sa_nil))) sa_nil)))))))
  (ss_one (ss_ret (se_var 2)))))))
theorem ok_opened (T : Tx K w mg c a) : ∀ n, FnG P w K mg base (1 + n) a.f_opened a.fd_opened ["decision"] (spG ⟨K, c⟩ 1 (m_opened n))
  | 0 => fnG_no
  | n + 1 => st_opened (Nat.le_add_right _ _) T (ok_opened T n)
theorem st_joined {k : Nat} (hk : 1 ≤ k) {r_joined : List D → List O → R D} (T : Tx K w mg c a) (G_joined : FnG P w K mg base k a.f_joined a.fd_joined ["decision"] (spG ⟨K, c⟩ 1 r_joined)) : FnG P w K mg base (k + 1) a.f_joined a.fd_joined ["decision"] (spG ⟨K, c⟩ 1 (runB n_joined.length (b_joined r_joined))) := by
  refine fnG_run T.F_joined sc_joined rfl fun X EX hX tk => ?_
  obtain ⟨cdv, A, outer, s, H, E, rfl, hr, rfl⟩ := hX
  exact (ss_cons (ss_setLc (own := [("part", 3)]) (fz := true) (i := 1) rfl sc_joined.nd rfl rfl (sw_true rfl rfl rfl (by decide +kernel)) (si_any (se_call ((ok_inner_parts T).mono (by omega)) hr (by rfl) T.g_inner_parts T.F_inner_parts.kp T.b_inner_parts .nil (fun _ _ => .nil) rfl tk (sa_cons (se_var 0) sa_nil) (mArgs_len (fun _ _ _ _ h => mArgs0_len h)))) (by refine blkOk_by ?_; show blkC n_joined (defScope s_joined) _ _ = true; decide +kernel) (fun _ _ _ _ _ => (sg_name (vs := [3]) (i := 3) sc_joined.nd rfl (by first | exact Or.inl rfl | exact Or.inr rfl))) (fun _ _ _ _ _ => sts_nil) (fun _ _ _ _ _ => (se_call (G_joined.mono (by omega)) hr (by rfl) T.g_joined T.F_joined.kp T.b_joined .nil (fun _ _ => .nil) rfl takes0 (sa_cons (se_var 3) sa_nil) (mArgs_len (fun _ _ _ _ h => mArgs0_len h)))))
  (ss_cons (ss_if (st_cmp op_notInX os_in (se_ix (se_var 0) se_int) (se_tup (sa_cons se_str (sa_cons se_str sa_nil))))
  (ss_one (ss_ret (se_call ((ok_rebuilt T).mono (by omega)) hr (by rfl) T.g_rebuilt T.F_rebuilt.kp T.b_rebuilt .nil (fun _ _ => .nil) rfl tk (sa_cons (se_var 0) (sa_cons (se_var 1) sa_nil)) (mArgs_len (mArgs_len (fun _ _ _ _ h => mArgs0_len h))))))
  ss_nil)
  (ss_cons (ss_set (i := 2) sc_joined.nd rfl (by first | exact Or.inl rfl | exact Or.inr rfl) (se_lst (fz := false) sa_nil))
  (ss_cons (ss_for (vs := [3]) (passes_of rfl) rfl (si_any (se_var 1)) (sg_name (vs := [3]) (i := 3) sc_joined.nd rfl (by first | exact Or.inl rfl | exact Or.inr rfl))
  (ss_one (ss_expr (se_bm PySem.F.plainAttrs_list PySem.F.slot_list_extend PySem.F.type_list_extend mt_extendX ty_list ms_extendX (se_var 2) (sa_cons (se_ite (st_cmp (op_eqS hr.room.units) os_eq (se_ix (se_var 3) se_int) (se_ix (se_var 0) se_int)) (se_ix (se_var 3) se_int) (se_lst (fz := true) (sa_cons (se_var 3) sa_nil))) sa_nil) (pe_bm PySem.F.plainAttrs_list PySem.F.slot_list_extend PySem.F.type_list_extend mt_extendX (se_var 2) (sa_cons (se_ite (st_cmp (op_eqS hr.room.units) os_eq (se_ix (se_var 3) se_int) (se_ix (se_var 0) se_int)) (se_ix (se_var 3) se_int) (se_lst (fz := true) (sa_cons (se_var 3) sa_nil))) sa_nil))))))
  (ss_cons (ss_if (st_cmp op_le os_le (se_callB call_len cs_len (by rfl) T.z_len bt_len (sa_cons (se_var 2) sa_nil)) (se_ki (by rfl) T.k_MOST_WITHIN))
  (ss_one (ss_set (i := 1) sc_joined.nd rfl (by first | exact Or.inl rfl | exact Or.inr rfl) (se_var 2)))
  ss_nil)
  (ss_cons (ss_if (st_cmp (op_eqS hr.room.units) os_eq (se_callB call_len cs_len (by rfl) T.z_len bt_len (sa_cons (se_var 1) sa_nil)) se_int)
  (ss_one (ss_ret (se_ix (se_var 1) se_int)))
  ss_nil)
  (ss_one (ss_ret (se_tup (sa_cons (se_ix (se_var 0) se_int) (sa_cons (se_callTy call_tuple_of cs_tupOf (by rfl) T.z_tuple bt_tuple (sa_cons (se_var 1) sa_nil)) sa_nil)))))))))))
theorem ok_joined (T : Tx K w mg c a) : ∀ n, FnG P w K mg base (1 + n) a.f_joined a.fd_joined ["decision"] (spG ⟨K, c⟩ 1 (m_joined n))
  | 0 => fnG_no
  | n + 1 => st_joined (Nat.le_add_right _ _) T (ok_joined T n)
theorem ok_lean_cases (T : Tx K w mg c a) : FnG P w K mg base 1 a.f_lean_cases a.fd_lean_cases ["parts"] (spG ⟨K, c⟩ 1 m_lean_cases) := by
  refine fnG_run (k := 0) T.F_lean_cases sc_lean_cases rfl fun X EX hX tk => ?_
  obtain ⟨cdv, A, outer, s, H, E, rfl, hr, rfl⟩ := hX
  exact (ss_cons (ss_set (i := 1) sc_lean_cases.nd rfl (by first | exact Or.inl rfl | exact Or.inr rfl) (se_lst (fz := false) sa_nil))
  (ss_cons (ss_set (i := 2) sc_lean_cases.nd rfl (by first | exact Or.inl rfl | exact Or.inr rfl) (se_ix (se_var 0) (se_un un_neg us_neg se_int)))
  (ss_cons (ss_for (vs := [3]) (passes_of rfl) rfl (si_range3 (by rfl) T.z_range (sa_cons se_int (sa_cons (se_op op_sub os_sub (se_callB call_len cs_len (by rfl) T.z_len bt_len (sa_cons (se_var 0) sa_nil)) se_int) (sa_cons se_int sa_nil)))) (sg_name (vs := [3]) (i := 3) sc_lean_cases.nd rfl (by first | exact Or.inl rfl | exact Or.inr rfl))
  (ss_cons (ss_if (st_cmp (op_eqS hr.room.units) os_eq (se_ix (se_var 0) (se_var 3)) (se_gtup (by rfl) T.t_YES (fun _ _ => (.cons (.str _) .nil))))
  (ss_cons (ss_set (i := 2) sc_lean_cases.nd rfl (by first | exact Or.inl rfl | exact Or.inr rfl) (se_ix (se_var 0) (se_op op_addD (os_add (fz := true)) (se_var 3) se_int)))
  (ss_one ss_break))
  ss_nil)
  (ss_one (ss_if (st_cmp (op_neS hr.room.units) os_ne (se_ix (se_var 0) (se_var 3)) (se_gtup (by rfl) T.t_NO (fun _ _ => (.cons (.str _) .nil))))
  (ss_one (ss_expr (se_bm PySem.F.plainAttrs_list PySem.F.slot_list_append PySem.F.type_list_append mt_append ty_list ms_append (se_var 1) (sa_cons (se_tup (sa_cons (se_ix (se_var 0) (se_var 3)) (sa_cons (se_ix (se_var 0) (se_op op_addD (os_add (fz := true)) (se_var 3) se_int)) sa_nil))) sa_nil) (pe_bm PySem.F.plainAttrs_list PySem.F.slot_list_append PySem.F.type_list_append mt_append (se_var 1) (sa_cons (se_tup (sa_cons (se_ix (se_var 0) (se_var 3)) (sa_cons (se_ix (se_var 0) (se_op op_addD (os_add (fz := true)) (se_var 3) se_int)) sa_nil))) sa_nil)))))
  ss_nil))))
  (ss_cons (ss_if (st_cmp (op_eqS hr.room.units) os_eq (se_var 1) (se_lst (fz := true) sa_nil))
  (ss_one (ss_ret (se_var 2)))
  ss_nil)
  (ss_one (ss_ret (se_tup (sa_cons se_str (sa_cons (se_callTy call_tuple_of cs_tupOf (by rfl) T.z_tuple bt_tuple (sa_cons (se_var 1) sa_nil)) (sa_cons (se_var 2) sa_nil))))))))))
theorem st_lean {k : Nat} (hk : 1 ≤ k) {r_lean : List D → List O → R D} (T : Tx K w mg c a) (G_lean : FnG P w K mg base k a.f_lean a.fd_lean ["decision"] (spG ⟨K, c⟩ 1 r_lean)) : FnG P w K mg base (k + 1) a.f_lean a.fd_lean ["decision"] (spG ⟨K, c⟩ 1 (runB n_lean.length (b_lean r_lean))) := by
  refine fnG_run T.F_lean sc_lean rfl fun X EX hX tk => ?_
  obtain ⟨cdv, A, outer, s, H, E, rfl, hr, rfl⟩ := hX
  exact (ss_cons (ss_setLc (own := [("part", 6)]) (fz := true) (i := 1) rfl sc_lean.nd rfl rfl (sw_true rfl rfl rfl (by decide +kernel)) (si_any (se_call ((ok_inner_parts T).mono (by omega)) hr (by rfl) T.g_inner_parts T.F_inner_parts.kp T.b_inner_parts .nil (fun _ _ => .nil) rfl tk (sa_cons (se_var 0) sa_nil) (mArgs_len (fun _ _ _ _ h => mArgs0_len h)))) (by refine blkOk_by ?_; show blkC n_lean (defScope s_lean) _ _ = true; decide +kernel) (fun _ _ _ _ _ => (sg_name (vs := [6]) (i := 6) sc_lean.nd rfl (by first | exact Or.inl rfl | exact Or.inr rfl))) (fun _ _ _ _ _ => sts_nil) (fun _ _ _ _ _ => (se_call (G_lean.mono (by omega)) hr (by rfl) T.g_lean T.F_lean.kp T.b_lean .nil (fun _ _ => .nil) rfl takes0 (sa_cons (se_var 6) sa_nil) (mArgs_len (fun _ _ _ _ h => mArgs0_len h)))))
  (ss_cons (ss_set (i := 2) sc_lean.nd rfl (by first | exact Or.inl rfl | exact Or.inr rfl) (se_ix (se_var 0) se_int))
  (ss_cons (ss_if (st_cmp (op_eqS hr.room.units) os_eq (se_var 2) se_str)
  (ss_one (ss_ret (se_call ((ok_lean_cases T).mono (by omega)) hr (by rfl) T.g_lean_cases T.F_lean_cases.kp T.b_lean_cases .nil (fun _ _ => .nil) rfl tk (sa_cons (se_var 1) sa_nil) (mArgs_len (fun _ _ _ _ h => mArgs0_len h)))))
  ss_nil)
  (ss_cons (ss_if (PW.pt (sw_and (st_cmp (op_eqS hr.room.units) os_eq (se_var 2) se_str) (sw_and1 (st_cmp (op_or op_inX (op_inU hr.room.u65)) (OpS.or os_in os_inU) (se_ix (se_var 1) se_int) (se_tup (sa_cons (se_gtup (by rfl) T.t_YES (fun _ _ => (.cons (.str _) .nil))) (sa_cons (se_gtup (by rfl) T.t_NO (fun _ _ => (.cons (.str _) .nil))) sa_nil)))))))
  (ss_one (ss_ret (se_tup (sa_cons (se_call ((ok_other_word T).mono (by omega)) hr (by rfl) T.g_other_word T.F_other_word.kp T.b_other_word .nil (fun _ _ => .nil) rfl tk (sa_cons (se_ix (se_ix (se_var 1) se_int) se_int) sa_nil) (mArgs_len (fun _ _ _ _ h => mArgs0_len h))) sa_nil))))
  ss_nil)
  (ss_cons (ss_if (st_cmp op_notInX os_in (se_var 2) (se_tup (sa_cons se_str (sa_cons se_str sa_nil))))
  (ss_one (ss_ret (se_call ((ok_rebuilt T).mono (by omega)) hr (by rfl) T.g_rebuilt T.F_rebuilt.kp T.b_rebuilt .nil (fun _ _ => .nil) rfl tk (sa_cons (se_var 0) (sa_cons (se_var 1) sa_nil)) (mArgs_len (mArgs_len (fun _ _ _ _ h => mArgs0_len h))))))
  ss_nil)
  (ss_cons (ss_asg (vs := [4, 5]) (se_ite (st_cmp (op_eqS hr.room.units) os_eq (se_var 2) se_str) (se_tup (sa_cons (se_gtup (by rfl) T.t_YES (fun _ _ => (.cons (.str _) .nil))) (sa_cons (se_gtup (by rfl) T.t_NO (fun _ _ => (.cons (.str _) .nil))) sa_nil))) (se_tup (sa_cons (se_gtup (by rfl) T.t_NO (fun _ _ => (.cons (.str _) .nil))) (sa_cons (se_gtup (by rfl) T.t_YES (fun _ _ => (.cons (.str _) .nil))) sa_nil)))) (sg_tup rfl (sgs_cons (sg_name (vs := [4, 5]) (i := 4) sc_lean.nd rfl (by first | exact Or.inl rfl | exact Or.inr rfl)) (sgs_cons (sg_name (vs := [4, 5]) (i := 5) sc_lean.nd rfl (by first | exact Or.inl rfl | exact Or.inr rfl)) sgs_nil))))
  (ss_cons (ss_setLc (own := [("part", 6)]) (fz := true) (i := 3) rfl sc_lean.nd rfl rfl (sw_true rfl rfl rfl (by decide +kernel)) (si_any (se_var 1)) (by refine blkOk_by ?_; show blkC n_lean (defScope s_lean) _ _ = true; decide +kernel) (fun _ _ _ _ _ => (sg_name (vs := [6]) (i := 6) sc_lean.nd rfl (by first | exact Or.inl rfl | exact Or.inr rfl))) (fun _ _ _ _ _ => (sts_one (st_cmp (op_neS hr.room.units) os_ne (se_var 6) (se_var 4)))) (fun _ _ _ _ _ => (se_var 6)))
  (ss_cons (ss_if (st_cmp (op_or op_inX (op_inD hr.room.u65)) (OpS.or os_in os_inD) (se_var 5) (se_var 3))
  (ss_one (ss_ret (se_var 5)))
  ss_nil)
  (ss_cons (ss_if (st_cmp (op_eqS hr.room.units) os_eq (se_var 3) (se_lst (fz := true) sa_nil))
  (ss_one (ss_ret (se_var 4)))
  ss_nil)
  (ss_one (ss_ret (se_tup (sa_cons (se_var 2) (sa_cons (se_callTy call_tuple_of cs_tupOf (by rfl) T.z_tuple bt_tuple (sa_cons (se_var 3) sa_nil)) sa_nil))))))))))))))
theorem ok_lean (T : Tx K w mg c a) : ∀ n, FnG P w K mg base (1 + n) a.f_lean a.fd_lean ["decision"] (spG ⟨K, c⟩ 1 (m_lean n))
  | 0 => fnG_no
  | n + 1 => st_lean (Nat.le_add_right _ _) T (ok_lean T n)
theorem st_size_of {k : Nat} (hk : 1 ≤ k) {r_size_of : List D → List O → R D} (T : Tx K w mg c a) (G_size_of : FnG P w K mg base k a.f_size_of a.fd_size_of ["decision"] (spG ⟨K, c⟩ 1 r_size_of)) : FnG P w K mg base (k + 1) a.f_size_of a.fd_size_of ["decision"] (spG ⟨K, c⟩ 1 (runB n_size_of.length (b_size_of r_size_of))) := by
  refine fnG_run T.F_size_of sc_size_of rfl fun X EX hX tk => ?_
  obtain ⟨cdv, A, outer, s, H, E, rfl, hr, rfl⟩ := hX
  exact (ss_cons (ss_setLc (own := [("part", 2)]) (fz := true) (i := 1) rfl sc_size_of.nd rfl rfl (sw_true rfl rfl rfl (by decide +kernel)) (si_any (se_call ((ok_inner_parts T).mono (by omega)) hr (by rfl) T.g_inner_parts T.F_inner_parts.kp T.b_inner_parts .nil (fun _ _ => .nil) rfl tk (sa_cons (se_var 0) sa_nil) (mArgs_len (fun _ _ _ _ h => mArgs0_len h)))) (by refine blkOk_by ?_; show blkC n_size_of (defScope s_size_of) _ _ = true; decide +kernel) (fun _ _ _ _ _ => (sg_name (vs := [2]) (i := 2) sc_size_of.nd rfl (by first | exact Or.inl rfl | exact Or.inr rfl))) (fun _ _ _ _ _ => sts_nil) (fun _ _ _ _ _ => (se_call (G_size_of.mono (by omega)) hr (by rfl) T.g_size_of T.F_size_of.kp T.b_size_of .nil (fun _ _ => .nil) rfl takes0 (sa_cons (se_var 2) sa_nil) (mArgs_len (fun _ _ _ _ h => mArgs0_len h)))))
  (ss_one (ss_ret (se_tup (sa_cons (se_callBK (cr_sumS rfl) cs_sumS (by rfl) T.z_sum bt_sum (sa_cons (se_lc (own := [("many", 3), ("deep", 4)]) (fz := true) rfl sc_size_of.nd (si_any (se_var 1)) (by refine blkOk_by ?_; show blkC n_size_of (defScope s_size_of) _ _ = true; decide +kernel) (fun _ _ _ _ _ => (sg_tup rfl (sgs_cons (sg_name (vs := [3, 4]) (i := 3) sc_size_of.nd rfl (by first | exact Or.inl rfl | exact Or.inr rfl)) (sgs_cons (sg_name (vs := [3, 4]) (i := 4) sc_size_of.nd rfl (by first | exact Or.inl rfl | exact Or.inr rfl)) sgs_nil)))) (fun _ _ _ _ _ => sts_nil) (fun _ _ _ _ _ => (se_var 3))) sa_nil)) (sa_cons (se_op op_addD (os_add (fz := true)) se_int (se_callBK (cr_maxD rfl) cs_maxD (by rfl) T.z_max bt_max (sa_cons (se_lc (own := [("many", 3), ("deep", 4)]) (fz := true) rfl sc_size_of.nd (si_any (se_var 1)) (by refine blkOk_by ?_; show blkC n_size_of (defScope s_size_of) _ _ = true; decide +kernel) (fun _ _ _ _ _ => (sg_tup rfl (sgs_cons (sg_name (vs := [3, 4]) (i := 3) sc_size_of.nd rfl (by first | exact Or.inl rfl | exact Or.inr rfl)) (sgs_cons (sg_name (vs := [3, 4]) (i := 4) sc_size_of.nd rfl (by first | exact Or.inl rfl | exact Or.inr rfl)) sgs_nil)))) (fun _ _ _ _ _ => sts_nil) (fun _ _ _ _ _ => (se_var 4))) sa_nil))) sa_nil))))))
theorem ok_size_of (T : Tx K w mg c a) : ∀ n, FnG P w K mg base (1 + n) a.f_size_of a.fd_size_of ["decision"] (spG ⟨K, c⟩ 1 (m_size_of n))
  | 0 => fnG_no
  | n + 1 => st_size_of (Nat.le_add_right _ _) T (ok_size_of T n)
theorem st_opened_size {k : Nat} (hk : 1 ≤ k) {r_opened_size : List D → List O → R D} (T : Tx K w mg c a) (G_opened_size : FnG P w K mg base k a.f_opened_size a.fd_opened_size ["decision"] (spG ⟨K, c⟩ 1 r_opened_size)) : FnG P w K mg base (k + 1) a.f_opened_size a.fd_opened_size ["decision"] (spG ⟨K, c⟩ 1 (runB n_opened_size.length (b_opened_size r_opened_size))) := by
  refine fnG_run T.F_opened_size sc_opened_size rfl fun X EX hX tk => ?_
  obtain ⟨cdv, A, outer, s, H, E, rfl, hr, rfl⟩ := hX
  exact (ss_cons (ss_setLc (own := [("part", 5)]) (fz := true) (i := 1) rfl sc_opened_size.nd rfl rfl (sw_true rfl rfl rfl (by decide +kernel)) (si_any (se_call ((ok_inner_parts T).mono (by omega)) hr (by rfl) T.g_inner_parts T.F_inner_parts.kp T.b_inner_parts .nil (fun _ _ => .nil) rfl tk (sa_cons (se_var 0) sa_nil) (mArgs_len (fun _ _ _ _ h => mArgs0_len h)))) (by refine blkOk_by ?_; show blkC n_opened_size (defScope s_opened_size) _ _ = true; decide +kernel) (fun _ _ _ _ _ => (sg_name (vs := [5]) (i := 5) sc_opened_size.nd rfl (by first | exact Or.inl rfl | exact Or.inr rfl))) (fun _ _ _ _ _ => sts_nil) (fun _ _ _ _ _ => (se_call (G_opened_size.mono (by omega)) hr (by rfl) T.g_opened_size T.F_opened_size.kp T.b_opened_size .nil (fun _ _ => .nil) rfl takes0 (sa_cons (se_var 5) sa_nil) (mArgs_len (fun _ _ _ _ h => mArgs0_len h)))))
  (ss_cons (ss_if (st_cmp (op_neS hr.room.units) os_ne (se_ix (se_var 0) se_int) se_str)
  (ss_one (ss_ret (se_tup (sa_cons (se_callBK (cr_sumS rfl) cs_sumS (by rfl) T.z_sum bt_sum (sa_cons (se_lc (own := [("many", 3), ("deep", 4)]) (fz := true) rfl sc_opened_size.nd (si_any (se_var 1)) (by refine blkOk_by ?_; show blkC n_opened_size (defScope s_opened_size) _ _ = true; decide +kernel) (fun _ _ _ _ _ => (sg_tup rfl (sgs_cons (sg_name (vs := [3, 4]) (i := 3) sc_opened_size.nd rfl (by first | exact Or.inl rfl | exact Or.inr rfl)) (sgs_cons (sg_name (vs := [3, 4]) (i := 4) sc_opened_size.nd rfl (by first | exact Or.inl rfl | exact Or.inr rfl)) sgs_nil)))) (fun _ _ _ _ _ => sts_nil) (fun _ _ _ _ _ => (se_var 3))) sa_nil)) (sa_cons (se_op op_addD (os_add (fz := true)) se_int (se_callBK (cr_maxD rfl) cs_maxD (by rfl) T.z_max bt_max (sa_cons (se_lc (own := [("many", 3), ("deep", 4)]) (fz := true) rfl sc_opened_size.nd (si_any (se_var 1)) (by refine blkOk_by ?_; show blkC n_opened_size (defScope s_opened_size) _ _ = true; decide +kernel) (fun _ _ _ _ _ => (sg_tup rfl (sgs_cons (sg_name (vs := [3, 4]) (i := 3) sc_opened_size.nd rfl (by first | exact Or.inl rfl | exact Or.inr rfl)) (sgs_cons (sg_name (vs := [3, 4]) (i := 4) sc_opened_size.nd rfl (by first | exact Or.inl rfl | exact Or.inr rfl)) sgs_nil)))) (fun _ _ _ _ _ => sts_nil) (fun _ _ _ _ _ => (se_var 4))) sa_nil))) sa_nil)))))
  ss_nil)
  (ss_cons (ss_asg (vs := [3, 4]) (se_ix (se_var 1) (se_un un_neg us_neg se_int)) (sg_tup rfl (sgs_cons (sg_name (vs := [3, 4]) (i := 3) sc_opened_size.nd rfl (by first | exact Or.inl rfl | exact Or.inr rfl)) (sgs_cons (sg_name (vs := [3, 4]) (i := 4) sc_opened_size.nd rfl (by first | exact Or.inl rfl | exact Or.inr rfl)) sgs_nil))))
  (ss_cons (ss_for (vs := [2]) (passes_of rfl) rfl (si_range3 (by rfl) T.z_range (sa_cons (se_op op_sub os_sub (se_callB call_len cs_len (by rfl) T.z_len bt_len (sa_cons (se_var 1) sa_nil)) se_int) (sa_cons (se_un un_neg us_neg se_int) (sa_cons (se_un un_neg us_neg se_int) sa_nil)))) (sg_name (vs := [2]) (i := 2) sc_opened_size.nd rfl (by first | exact Or.inl rfl | exact Or.inr rfl))
  (ss_cons (ss_par (i := 6) (j := 7) rfl sc_opened_size.nd rfl rfl (by decide) (by rfl) (by rfl) (sa_cons (se_ix (se_var 1) (se_var 2)) (sa_cons (se_ix (se_var 1) (se_op op_addD (os_add (fz := true)) (se_var 2) se_int)) sa_nil)))
  (ss_cons (ss_set (i := 3) sc_opened_size.nd rfl (by first | exact Or.inl rfl | exact Or.inr rfl) (se_op op_addD (os_add (fz := true)) (se_op op_addD (os_add (fz := true)) (se_op op_addD (os_add (fz := true)) se_int (se_op op_mul os_mul se_int (se_ix (se_var 6) se_int))) (se_ix (se_var 7) se_int)) (se_var 3)))
  (ss_one (ss_set (i := 4) sc_opened_size.nd rfl (by first | exact Or.inl rfl | exact Or.inr rfl) (se_op op_addD (os_add (fz := true)) se_int (se_callB (call_max3Nu rfl) cs_max3 (by rfl) T.z_max bt_max (sa_cons (se_op op_addD (os_add (fz := true)) se_int (se_ix (se_var 6) se_int)) (sa_cons (se_ix (se_var 7) se_int) (sa_cons (se_var 4) sa_nil))))))))))
  (ss_one (ss_ret (se_tup (sa_cons (se_var 3) (sa_cons (se_var 4) sa_nil)))))))))
theorem ok_opened_size (T : Tx K w mg c a) : ∀ n, FnG P w K mg base (1 + n) a.f_opened_size a.fd_opened_size ["decision"] (spG ⟨K, c⟩ 1 (m_opened_size n))
  | 0 => fnG_no
  | n + 1 => st_opened_size (Nat.le_add_right _ _) T (ok_opened_size T n)
theorem ok_look_at_great (T : Tx K w mg c a) : FnG P w K mg base 3 a.f_look_at_great a.fd_look_at_great ["size"] (spG ⟨K, c⟩ 1 m_look_at_great) := by
  refine fnG_run (k := 2) T.F_look_at_great sc_look_at_great rfl fun X EX hX tk => ?_
  obtain ⟨cdv, A, outer, s, H, E, rfl, hr, rfl⟩ := hX
  exact (ss_one (ss_if (PW.pt (sw_or (st_cmp op_gt os_gt (se_ix (se_var 0) se_int) (se_ki (by rfl) T.k_MOST_PARTS)) (sw_or1 (st_cmp op_gt os_gt (se_ix (se_var 0) se_int) (se_ki (by rfl) T.k_DEEPEST)))))
  (ss_one (ss_raiseX rfl T.XC_TooMany (xi_TooMany T) (hr.mono (by first | decide | omega)) T.xb_TooMany (by decide) (by decide) (by rfl) tk (sa_cons (se_ix (se_var 0) se_int) sa_nil)))
  ss_nil))
theorem ok_otherwise (T : Tx K w mg c a) : FnG P w K mg base 19 a.f_otherwise a.fd_otherwise ["decision", "word"] (spG ⟨K, c⟩ 2 m_otherwise) := by
  refine fnG_run (k := 18) T.F_otherwise sc_otherwise rfl fun X EX hX tk => ?_
  obtain ⟨cdv, A, outer, s, H, E, rfl, hr, rfl⟩ := hX
  exact (ss_cons (ss_if (PW.pt (sw_or (st_not (st_val (se_callB call_isi cs_isi (by rfl) T.z_isinstance bt_isinstance (sa_cons (se_var 1) (sa_cons (se_gty .str (by rfl) T.z_str bt_str) sa_nil))))) (sw_or1 (st_cmp (op_notInK T.D_RULES) (os_inK T.D_RULES) (se_var 1) (se_gobj (by rfl) T.gd_RULES)))))
  (ss_one (ss_raise rfl T.R_NoWord (by rfl) tk))
  ss_nil)
  (ss_cons (ss_if (st_cmp (op_eqS hr.room.units) os_eq (se_var 1) se_str)
  (ss_one (ss_expr (se_call ((ok_look_at_great T).mono (by decide)) hr (by rfl) T.g_look_at_great T.F_look_at_great.kp T.b_look_at_great .nil (fun _ _ => .nil) rfl tk (sa_cons (se_call ((ok_opened_size T 16).mono (by decide)) hr (by rfl) T.g_opened_size T.F_opened_size.kp T.b_opened_size .nil (fun _ _ => .nil) rfl tk (sa_cons (se_var 0) sa_nil) (mArgs_len (fun _ _ _ _ h => mArgs0_len h))) sa_nil) (mArgs_len (fun _ _ _ _ h => mArgs0_len h)))))
  ss_nil)
  (ss_cons (ss_set (i := 2) sc_otherwise.nd rfl (by first | exact Or.inl rfl | exact Or.inr rfl) (se_getK T.D_RULES (se_gobj (by rfl) T.gd_RULES) (se_var 1)))
  (ss_cons (ss_set (i := 3) sc_otherwise.nd rfl (by first | exact Or.inl rfl | exact Or.inr rfl) (se_callL (n := 1) (List.forall_mem_cons.mpr ⟨heldG_of T.e_pushed ((ok_pushed T).mono (by decide)) T.F_pushed.kp T.b_pushed, (List.forall_mem_cons.mpr ⟨heldG_of T.e_opened ((ok_opened T 16).mono (by decide)) T.F_opened.kp T.b_opened, (List.forall_mem_cons.mpr ⟨heldG_of T.e_joined ((ok_joined T 16).mono (by decide)) T.F_joined.kp T.b_joined, (List.forall_mem_cons.mpr ⟨heldG_of T.e_lean ((ok_lean T 16).mono (by decide)) T.F_lean.kp T.b_lean, (fun _ h => nomatch h)⟩)⟩)⟩)⟩) hr (by rfl) (by first | exact Or.inl rfl | exact Or.inr (Or.inl rfl) | exact Or.inr (Or.inr rfl)) rfl tk (sa_cons (se_var 0) sa_nil) (mArgs_len (fun _ _ _ _ h => mArgs0_len h))))
  (ss_cons (ss_expr (se_call ((ok_look_at_great T).mono (by decide)) hr (by rfl) T.g_look_at_great T.F_look_at_great.kp T.b_look_at_great .nil (fun _ _ => .nil) rfl tk (sa_cons (se_call ((ok_size_of T 16).mono (by decide)) hr (by rfl) T.g_size_of T.F_size_of.kp T.b_size_of .nil (fun _ _ => .nil) rfl tk (sa_cons (se_var 3) sa_nil) (mArgs_len (fun _ _ _ _ h => mArgs0_len h))) sa_nil) (mArgs_len (fun _ _ _ _ h => mArgs0_len h))))
  (ss_one (ss_ret (se_var 3))))))))
theorem ok_law_pool (T : Tx K w mg c a) : FnG P w K mg base 1 a.f_law_pool a.fd_law_pool ["_law_script", "_law_k"] (spG ⟨K, c⟩ 2 m_law_pool) := by
  refine fnG_run (k := 0) T.F_law_pool sc_law_pool rfl fun X EX hX tk => ?_
  obtain ⟨cdv, A, outer, s, H, E, rfl, hr, rfl⟩ := hX
  exact (ss_cons (ss_set (i := 2) sc_law_pool.nd rfl (by first | exact Or.inl rfl | exact Or.inr rfl) se_int)
  (ss_cons (ss_if (st_cmp (op_neS hr.room.units) os_ne (se_var 0) (se_lst (fz := true) sa_nil))
  (ss_one (ss_set (i := 2) sc_law_pool.nd rfl (by first | exact Or.inl rfl | exact Or.inr rfl) (se_ix (se_var 0) (se_op op_mod os_mod (se_var 1) (se_callB call_len cs_len (by rfl) T.z_len bt_len (sa_cons (se_var 0) sa_nil))))))
  ss_nil)
  (ss_cons (ss_if (st_cmp op_ge os_ge (se_var 1) (se_callB call_len cs_len (by rfl) T.z_len bt_len (sa_cons (se_var 0) sa_nil)))
  (ss_one (ss_set (i := 2) sc_law_pool.nd rfl (by first | exact Or.inl rfl | exact Or.inr rfl) (se_ix (se_lst (fz := true) (sa_cons (se_op op_mod os_mod (se_var 2) se_int) (sa_cons (se_op op_fdivW os_fdiv (se_var 2) (se_op op_pow os_pow se_int se_int)) sa_nil))) (se_callTy call_int1 cs_int (by rfl) T.z_int bt_int (sa_cons (se_cmp op_ge os_ge (se_var 2) (se_op op_pow os_pow se_int se_int)) sa_nil)))))
  ss_nil)
  (ss_cons (ss_set (i := 3) sc_law_pool.nd rfl (by first | exact Or.inl rfl | exact Or.inr rfl) (se_op op_mod os_mod (se_op op_mul os_mul (se_op op_addD (os_add (fz := true)) (se_op op_addD (os_add (fz := true)) (se_op op_mod os_mod (se_var 2) se_int) (se_op op_mul os_mul se_int (se_var 1))) se_int) se_int) se_int))
  (ss_one (ss_ret (se_lst (fz := false) (sa_cons (se_op op_mul os_mul (se_var 2) (se_callTy call_int1 cs_int (by rfl) T.z_int bt_int (sa_cons (se_cmp op_ge os_ge (se_var 2) (se_op op_pow os_pow se_int se_int)) sa_nil))) (sa_cons (se_var 3) sa_nil)))))))))
theorem ok_law_take (T : Tx K w mg c a) : FnG P w K mg base 1 a.f_law_take a.fd_law_take ["_law_pool_here", "_law_many"] (spG ⟨K, c⟩ 2 m_law_take) := by
  refine fnG_run (k := 0) T.F_law_take sc_law_take rfl fun X EX hX tk => ?_
  obtain ⟨cdv, A, outer, s, H, E, rfl, hr, rfl⟩ := hX
  exact (ss_cons (ss_if (st_cmp op_gt os_gt (se_ix (se_var 0) se_int) se_int)
  (ss_cons (ss_set (i := 2) sc_law_take.nd rfl (by first | exact Or.inl rfl | exact Or.inr rfl) (se_op op_mod os_mod (se_ix (se_var 0) se_int) (se_var 1)))
  (ss_cons (ss_asg (vs := []) (se_op op_fdivW os_fdiv (se_ix (se_var 0) se_int) (se_var 1)) (sg_sub (se_var 0) se_int))
  (ss_one (ss_ret (se_var 2)))))
  ss_nil)
  (ss_cons (ss_asg (vs := []) (se_op op_mod os_mod (se_op op_addD (os_add (fz := true)) (se_op op_mul os_mul (se_ix (se_var 0) se_int) se_int) se_int) se_int) (sg_sub (se_var 0) se_int))
  (ss_one (ss_ret (se_op op_mod os_mod (se_op op_fdivW os_fdiv (se_op op_mod os_mod (se_op op_mul os_mul (se_ix (se_var 0) se_int) (se_ix (se_var 0) se_int)) se_int) se_int) (se_var 1))))))
theorem st_law_decision {k : Nat} (hk : 1 ≤ k) {r_law_decision : List D → List O → R D} (T : Tx K w mg c a) (G_law_decision : FnG P w K mg base k a.f_law_decision a.fd_law_decision ["_law_pool_here", "_law_many", "_law_room", "_law_deep"] (spG ⟨K, c⟩ 4 r_law_decision)) : FnG P w K mg base (k + 1) a.f_law_decision a.fd_law_decision ["_law_pool_here", "_law_many", "_law_room", "_law_deep"] (spG ⟨K, c⟩ 4 (runB n_law_decision.length (b_law_decision r_law_decision))) := by
  refine fnG_run T.F_law_decision sc_law_decision rfl fun X EX hX tk => ?_
  obtain ⟨cdv, A, outer, s, H, E, rfl, hr, rfl⟩ := hX
  exact (ss_cons (ss_set (i := 4) sc_law_decision.nd rfl (by first | exact Or.inl rfl | exact Or.inr rfl) (se_call ((ok_law_take T).mono (by omega)) hr (by rfl) T.g_law_take T.F_law_take.kp T.b_law_take .nil (fun _ _ => .nil) rfl tk (sa_cons (se_var 0) (sa_cons se_int sa_nil)) (mArgs_len (mArgs_len (fun _ _ _ _ h => mArgs0_len h)))))
  (ss_cons (ss_if (PW.pt (sw_or (st_cmp op_lt os_lt (se_var 2) se_int) (sw_or (st_cmp op_lt os_lt (se_var 3) se_int) (sw_or1 (st_cmp (op_eqS hr.room.units) os_eq (se_var 4) se_int)))))
  (ss_cons (ss_if (st_cmp (op_eqS hr.room.units) os_eq (se_call ((ok_law_take T).mono (by omega)) hr (by rfl) T.g_law_take T.F_law_take.kp T.b_law_take .nil (fun _ _ => .nil) rfl tk (sa_cons (se_var 0) (sa_cons se_int sa_nil)) (mArgs_len (mArgs_len (fun _ _ _ _ h => mArgs0_len h)))) se_int)
  (ss_one (ss_ret (se_ix (se_lst (fz := true) (sa_cons (se_tup (sa_cons se_str sa_nil)) (sa_cons (se_tup (sa_cons se_str sa_nil)) sa_nil))) (se_call ((ok_law_take T).mono (by omega)) hr (by rfl) T.g_law_take T.F_law_take.kp T.b_law_take .nil (fun _ _ => .nil) rfl tk (sa_cons (se_var 0) (sa_cons se_int sa_nil)) (mArgs_len (mArgs_len (fun _ _ _ _ h => mArgs0_len h)))))))
  ss_nil)
  (ss_one (ss_ret (se_tup (sa_cons se_str (sa_cons (se_call ((ok_law_take T).mono (by omega)) hr (by rfl) T.g_law_take T.F_law_take.kp T.b_law_take .nil (fun _ _ => .nil) rfl tk (sa_cons (se_var 0) (sa_cons (se_var 1) sa_nil)) (mArgs_len (mArgs_len (fun _ _ _ _ h => mArgs0_len h)))) sa_nil))))))
  ss_nil)
  (ss_cons (ss_if (st_cmp op_lt os_lt (se_var 4) se_int)
  (ss_one (ss_ret (se_tup (sa_cons se_str (sa_cons (se_call (G_law_decision.mono (by omega)) hr (by rfl) T.g_law_decision T.F_law_decision.kp T.b_law_decision .nil (fun _ _ => .nil) rfl tk (sa_cons (se_var 0) (sa_cons (se_var 1) (sa_cons (se_op op_sub os_sub (se_var 2) se_int) (sa_cons (se_op op_sub os_sub (se_var 3) se_int) sa_nil)))) (mArgs_len (mArgs_len (mArgs_len (mArgs_len (fun _ _ _ _ h => mArgs0_len h)))))) sa_nil)))))
  ss_nil)
  (ss_cons (ss_if (st_cmp op_lt os_lt (se_var 4) se_int)
  (ss_cons (ss_set (i := 5) sc_law_decision.nd rfl (by first | exact Or.inl rfl | exact Or.inr rfl) (se_op op_addD (os_add (fz := true)) se_int (se_call ((ok_law_take T).mono (by omega)) hr (by rfl) T.g_law_take T.F_law_take.kp T.b_law_take .nil (fun _ _ => .nil) rfl tk (sa_cons (se_var 0) (sa_cons (se_callB (call_min2 rfl) cs_min2 (by rfl) T.z_min bt_min (sa_cons se_int (sa_cons (se_op op_sub os_sub (se_var 2) se_int) sa_nil))) sa_nil)) (mArgs_len (mArgs_len (fun _ _ _ _ h => mArgs0_len h))))))
  (ss_cons (ss_setLc (own := [("_law_k", 8)]) (fz := true) (i := 9) rfl sc_law_decision.nd rfl rfl (sw_true rfl rfl rfl (by decide +kernel)) (si_range1 (by rfl) T.z_range (sa_cons (se_var 5) sa_nil)) (by refine blkOk_by ?_; show blkC n_law_decision (defScope s_law_decision) _ _ = true; decide +kernel) (fun _ _ _ _ _ => (sg_name (vs := [8]) (i := 8) sc_law_decision.nd rfl (by first | exact Or.inl rfl | exact Or.inr rfl))) (fun _ _ _ _ _ => sts_nil) (fun _ _ _ _ _ => (se_call (G_law_decision.mono (by omega)) hr (by rfl) T.g_law_decision T.F_law_decision.kp T.b_law_decision .nil (fun _ _ => .nil) rfl takes0 (sa_cons (se_var 0) (sa_cons (se_var 1) (sa_cons (se_op op_fdivW os_fdiv (se_op op_sub os_sub (se_var 2) se_int) (se_var 5)) (sa_cons (se_op op_sub os_sub (se_var 3) se_int) sa_nil)))) (mArgs_len (mArgs_len (mArgs_len (mArgs_len (fun _ _ _ _ h => mArgs0_len h))))))))
  (ss_one (ss_ret (se_tup (sa_cons (se_ix (se_lst (fz := true) (sa_cons se_str (sa_cons se_str sa_nil))) (se_op op_mod os_mod (se_var 4) se_int)) (sa_cons (se_callTy call_tuple_of cs_tupOf (by rfl) T.z_tuple bt_tuple (sa_cons (se_var 9) sa_nil)) sa_nil)))))))
  ss_nil)
  (ss_cons (ss_set (i := 5) sc_law_decision.nd rfl (by first | exact Or.inl rfl | exact Or.inr rfl) (se_op op_addD (os_add (fz := true)) se_int (se_call ((ok_law_take T).mono (by omega)) hr (by rfl) T.g_law_take T.F_law_take.kp T.b_law_take .nil (fun _ _ => .nil) rfl tk (sa_cons (se_var 0) (sa_cons (se_callB (call_min2 rfl) cs_min2 (by rfl) T.z_min bt_min (sa_cons se_int (sa_cons (se_op op_addD (os_add (fz := true)) (se_op op_fdivW os_fdiv (se_op op_sub os_sub (se_var 2) se_int) se_int) se_int) sa_nil))) sa_nil)) (mArgs_len (mArgs_len (fun _ _ _ _ h => mArgs0_len h))))))
  (ss_cons (ss_set (i := 6) sc_law_decision.nd rfl (by first | exact Or.inl rfl | exact Or.inr rfl) (se_op op_fdivW os_fdiv (se_op op_sub os_sub (se_var 2) se_int) (se_op op_addD (os_add (fz := true)) (se_op op_mul os_mul se_int (se_var 5)) se_int)))
  (ss_cons (ss_if (st_cmp op_lt os_lt (se_var 6) se_int)
  (ss_one (ss_ret (se_tup (sa_cons se_str (sa_cons (se_call ((ok_law_take T).mono (by omega)) hr (by rfl) T.g_law_take T.F_law_take.kp T.b_law_take .nil (fun _ _ => .nil) rfl tk (sa_cons (se_var 0) (sa_cons (se_var 1) sa_nil)) (mArgs_len (mArgs_len (fun _ _ _ _ h => mArgs0_len h)))) sa_nil)))))
  ss_nil)
  (ss_cons (ss_set (i := 7) sc_law_decision.nd rfl (by first | exact Or.inl rfl | exact Or.inr rfl) (se_lst (fz := false) sa_nil))
  (ss_cons (ss_for (vs := [8]) (passes_of rfl) rfl (si_range1 (by rfl) T.z_range (sa_cons (se_var 5) sa_nil)) (sg_name (vs := [8]) (i := 8) sc_law_decision.nd rfl (by first | exact Or.inl rfl | exact Or.inr rfl))
  (ss_cons (ss_set (i := 10) sc_law_decision.nd rfl (by first | exact Or.inl rfl | exact Or.inr rfl) (se_call (G_law_decision.mono (by omega)) hr (by rfl) T.g_law_decision T.F_law_decision.kp T.b_law_decision .nil (fun _ _ => .nil) rfl tk (sa_cons (se_var 0) (sa_cons (se_var 1) (sa_cons (se_var 6) (sa_cons (se_op op_sub os_sub (se_var 3) se_int) sa_nil)))) (mArgs_len (mArgs_len (mArgs_len (mArgs_len (fun _ _ _ _ h => mArgs0_len h)))))))
  (ss_one (ss_expr (se_bm PySem.F.plainAttrs_list PySem.F.slot_list_append PySem.F.type_list_append mt_append ty_list ms_append (se_var 7) (sa_cons (se_tup (sa_cons (se_var 10) (sa_cons (se_call (G_law_decision.mono (by omega)) hr (by rfl) T.g_law_decision T.F_law_decision.kp T.b_law_decision .nil (fun _ _ => .nil) rfl tk (sa_cons (se_var 0) (sa_cons (se_var 1) (sa_cons (se_var 6) (sa_cons (se_op op_sub os_sub (se_var 3) se_int) sa_nil)))) (mArgs_len (mArgs_len (mArgs_len (mArgs_len (fun _ _ _ _ h => mArgs0_len h)))))) sa_nil))) sa_nil) (pe_bm PySem.F.plainAttrs_list PySem.F.slot_list_append PySem.F.type_list_append mt_append (se_var 7) (sa_cons (se_tup (sa_cons (se_var 10) (sa_cons (se_call (G_law_decision.mono (by omega)) hr (by rfl) T.g_law_decision T.F_law_decision.kp T.b_law_decision .nil (fun _ _ => .nil) rfl tk (sa_cons (se_var 0) (sa_cons (se_var 1) (sa_cons (se_var 6) (sa_cons (se_op op_sub os_sub (se_var 3) se_int) sa_nil)))) (mArgs_len (mArgs_len (mArgs_len (mArgs_len (fun _ _ _ _ h => mArgs0_len h)))))) sa_nil))) sa_nil)))))))
  (ss_one (ss_ret (se_tup (sa_cons se_str (sa_cons (se_callTy call_tuple_of cs_tupOf (by rfl) T.z_tuple bt_tuple (sa_cons (se_var 7) sa_nil)) (sa_cons (se_call (G_law_decision.mono (by omega)) hr (by rfl) T.g_law_decision T.F_law_decision.kp T.b_law_decision .nil (fun _ _ => .nil) rfl tk (sa_cons (se_var 0) (sa_cons (se_var 1) (sa_cons (se_var 6) (sa_cons (se_op op_sub os_sub (se_var 3) se_int) sa_nil)))) (mArgs_len (mArgs_len (mArgs_len (mArgs_len (fun _ _ _ _ h => mArgs0_len h)))))) sa_nil)))))))))))))))
theorem ok_law_decision (T : Tx K w mg c a) : ∀ n, FnG P w K mg base (1 + n) a.f_law_decision a.fd_law_decision ["_law_pool_here", "_law_many", "_law_room", "_law_deep"] (spG ⟨K, c⟩ 4 (m_law_decision n))
  | 0 => fnG_no
  | n + 1 => st_law_decision (Nat.le_add_right _ _) T (ok_law_decision T n)
theorem ok_law_inner (T : Tx K w mg c a) : FnG P w K mg base 1 a.f_law_inner a.fd_law_inner ["_law_decision_here"] (spG ⟨K, c⟩ 1 m_law_inner) := by
  refine fnG_run (k := 0) T.F_law_inner sc_law_inner rfl fun X EX hX tk => ?_
  obtain ⟨cdv, A, outer, s, H, E, rfl, hr, rfl⟩ := hX
  exact (ss_cons (ss_if (st_cmp (op_eqS hr.room.units) os_eq (se_ix (se_var 0) se_int) se_str)
  (ss_one (ss_ret (se_lst (fz := true) (sa_cons (se_ix (se_var 0) se_int) sa_nil))))
  ss_nil)
  (ss_cons (ss_if (st_cmp op_inX os_in (se_ix (se_var 0) se_int) (se_lst (fz := true) (sa_cons se_str (sa_cons se_str sa_nil))))
  (ss_one (ss_ret (se_callTy call_list_of (cs_listOf (fz := true)) (by rfl) T.z_list bt_list (sa_cons (se_ix (se_var 0) se_int) sa_nil))))
  ss_nil)
  (ss_cons (ss_set (i := 1) sc_law_inner.nd rfl (by first | exact Or.inl rfl | exact Or.inr rfl) (se_lst (fz := false) sa_nil))
  (ss_cons (ss_if (st_cmp (op_eqS hr.room.units) os_eq (se_ix (se_var 0) se_int) se_str)
  (ss_cons (ss_for (vs := [2, 3]) (passes_of rfl) rfl (si_any (se_ix (se_var 0) se_int)) (sg_tup rfl (sgs_cons (sg_name (vs := [2, 3]) (i := 2) sc_law_inner.nd rfl (by first | exact Or.inl rfl | exact Or.inr rfl)) (sgs_cons (sg_name (vs := [2, 3]) (i := 3) sc_law_inner.nd rfl (by first | exact Or.inl rfl | exact Or.inr rfl)) sgs_nil)))
  (ss_one (ss_set (i := 1) sc_law_inner.nd rfl (by first | exact Or.inl rfl | exact Or.inr rfl) (se_op op_addD (os_add (fz := false)) (se_var 1) (se_lst (fz := true) (sa_cons (se_var 2) (sa_cons (se_var 3) sa_nil)))))))
  (ss_one (ss_expr (se_bm PySem.F.plainAttrs_list PySem.F.slot_list_append PySem.F.type_list_append mt_append ty_list ms_append (se_var 1) (sa_cons (se_ix (se_var 0) se_int) sa_nil) (pe_bm PySem.F.plainAttrs_list PySem.F.slot_list_append PySem.F.type_list_append mt_append (se_var 1) (sa_cons (se_ix (se_var 0) se_int) sa_nil))))))
  ss_nil)
  (ss_one (ss_retF (i := 1)))))))
theorem ok_law_put (T : Tx K w mg c a) : FnG P w K mg base 1 a.f_law_put a.fd_law_put ["_law_decision_here", "_law_parts"] (spG ⟨K, c⟩ 2 m_law_put) := by
  refine fnG_run (k := 0) T.F_law_put sc_law_put rfl fun X EX hX tk => ?_
  obtain ⟨cdv, A, outer, s, H, E, rfl, hr, rfl⟩ := hX
  exact (ss_cons (ss_if (st_cmp (op_eqS hr.room.units) os_eq (se_ix (se_var 0) se_int) se_str)
  (ss_one (ss_ret (se_tup (sa_cons se_str (sa_cons (se_ix (se_var 1) se_int) sa_nil)))))
  ss_nil)
  (ss_cons (ss_if (st_cmp op_inX os_in (se_ix (se_var 0) se_int) (se_lst (fz := true) (sa_cons se_str (sa_cons se_str sa_nil))))
  (ss_one (ss_ret (se_tup (sa_cons (se_ix (se_var 0) se_int) (sa_cons (se_callTy call_tuple_of cs_tupOf (by rfl) T.z_tuple bt_tuple (sa_cons (se_var 1) sa_nil)) sa_nil)))))
  ss_nil)
  (ss_cons (ss_if (st_cmp (op_eqS hr.room.units) os_eq (se_ix (se_var 0) se_int) se_str)
  (ss_cons (ss_set (i := 2) sc_law_put.nd rfl (by first | exact Or.inl rfl | exact Or.inr rfl) (se_callTy call_tuple_of cs_tupOf (by rfl) T.z_tuple bt_tuple (sa_cons (se_lc (own := [("_law_at", 3)]) (fz := true) rfl sc_law_put.nd (si_range3 (by rfl) T.z_range (sa_cons se_int (sa_cons (se_op op_sub os_sub (se_callB call_len cs_len (by rfl) T.z_len bt_len (sa_cons (se_var 1) sa_nil)) se_int) (sa_cons se_int sa_nil)))) (by refine blkOk_by ?_; show blkC n_law_put (defScope s_law_put) _ _ = true; decide +kernel) (fun _ _ _ _ _ => (sg_name (vs := [3]) (i := 3) sc_law_put.nd rfl (by first | exact Or.inl rfl | exact Or.inr rfl))) (fun _ _ _ _ _ => sts_nil) (fun _ _ _ _ _ => (se_tup (sa_cons (se_ix (se_var 1) (se_var 3)) (sa_cons (se_ix (se_var 1) (se_op op_addD (os_add (fz := true)) (se_var 3) se_int)) sa_nil))))) sa_nil)))
  (ss_one (ss_ret (se_tup (sa_cons se_str (sa_cons (se_var 2) (sa_cons (se_ix (se_var 1) (se_un un_neg us_neg se_int)) sa_nil)))))))
  ss_nil)
  (ss_one (ss_ret (se_var 0))))))
theorem st_law_strewn {k : Nat} (hk : 1 ≤ k) {r_law_strewn : List D → List O → R D} (T : Tx K w mg c a) (G_law_strewn : FnG P w K mg base k a.f_law_strewn a.fd_law_strewn ["_law_pool_here", "_law_decision_here", "_law_rare"] (spG ⟨K, c⟩ 3 r_law_strewn)) : FnG P w K mg base (k + 1) a.f_law_strewn a.fd_law_strewn ["_law_pool_here", "_law_decision_here", "_law_rare"] (spG ⟨K, c⟩ 3 (runB n_law_strewn.length (b_law_strewn r_law_strewn))) := by
  refine fnG_run T.F_law_strewn sc_law_strewn rfl fun X EX hX tk => ?_
  obtain ⟨cdv, A, outer, s, H, E, rfl, hr, rfl⟩ := hX
  exact (ss_cons (ss_if (st_cmp (op_eqS hr.room.units) os_eq (se_ix (se_var 1) se_int) se_str)
  (ss_cons (ss_if (st_cmp op_gt os_gt (se_call ((ok_law_take T).mono (by omega)) hr (by rfl) T.g_law_take T.F_law_take.kp T.b_law_take .nil (fun _ _ => .nil) rfl tk (sa_cons (se_var 0) (sa_cons (se_var 2) sa_nil)) (mArgs_len (mArgs_len (fun _ _ _ _ h => mArgs0_len h)))) se_int)
  (ss_one (ss_ret (se_var 1)))
  ss_nil)
  (ss_one (ss_ret (se_ix (se_lst (fz := true) (sa_cons (se_tup (sa_cons se_str sa_nil)) (sa_cons (se_tup (sa_cons se_str sa_nil)) sa_nil))) (se_call ((ok_law_take T).mono (by omega)) hr (by rfl) T.g_law_take T.F_law_take.kp T.b_law_take .nil (fun _ _ => .nil) rfl tk (sa_cons (se_var 0) (sa_cons se_int sa_nil)) (mArgs_len (mArgs_len (fun _ _ _ _ h => mArgs0_len h))))))))
  ss_nil)
  (ss_one (ss_ret (se_call ((ok_law_put T).mono (by omega)) hr (by rfl) T.g_law_put T.F_law_put.kp T.b_law_put .nil (fun _ _ => .nil) rfl tk (sa_cons (se_var 1) (sa_cons (se_lc (own := [("_law_part", 3)]) (fz := true) rfl sc_law_strewn.nd (si_any (se_call ((ok_law_inner T).mono (by omega)) hr (by rfl) T.g_law_inner T.F_law_inner.kp T.b_law_inner .nil (fun _ _ => .nil) rfl tk (sa_cons (se_var 1) sa_nil) (mArgs_len (fun _ _ _ _ h => mArgs0_len h)))) (by refine blkOk_by ?_; show blkC n_law_strewn (defScope s_law_strewn) _ _ = true; decide +kernel) (fun _ _ _ _ _ => (sg_name (vs := [3]) (i := 3) sc_law_strewn.nd rfl (by first | exact Or.inl rfl | exact Or.inr rfl))) (fun _ _ _ _ _ => sts_nil) (fun _ _ _ _ _ => (se_call (G_law_strewn.mono (by omega)) hr (by rfl) T.g_law_strewn T.F_law_strewn.kp T.b_law_strewn .nil (fun _ _ => .nil) rfl takes0 (sa_cons (se_var 0) (sa_cons (se_var 3) (sa_cons (se_var 2) sa_nil))) (mArgs_len (mArgs_len (mArgs_len (fun _ _ _ _ h => mArgs0_len h))))))) sa_nil)) (mArgs_len (mArgs_len (fun _ _ _ _ h => mArgs0_len h)))))))
theorem ok_law_strewn (T : Tx K w mg c a) : ∀ n, FnG P w K mg base (1 + n) a.f_law_strewn a.fd_law_strewn ["_law_pool_here", "_law_decision_here", "_law_rare"] (spG ⟨K, c⟩ 3 (m_law_strewn n))
  | 0 => fnG_no
  | n + 1 => st_law_strewn (Nat.le_add_right _ _) T (ok_law_strewn T n)
theorem st_law_size {k : Nat} (hk : 1 ≤ k) {r_law_size : List D → List O → R D} (T : Tx K w mg c a) (G_law_size : FnG P w K mg base k a.f_law_size a.fd_law_size ["_law_decision_here"] (spG ⟨K, c⟩ 1 r_law_size)) : FnG P w K mg base (k + 1) a.f_law_size a.fd_law_size ["_law_decision_here"] (spG ⟨K, c⟩ 1 (runB n_law_size.length (b_law_size r_law_size))) := by
  refine fnG_run T.F_law_size sc_law_size rfl fun X EX hX tk => ?_
  obtain ⟨cdv, A, outer, s, H, E, rfl, hr, rfl⟩ := hX
  exact (ss_cons (ss_set (i := 1) sc_law_size.nd rfl (by first | exact Or.inl rfl | exact Or.inr rfl) se_int)
  (ss_cons (ss_set (i := 2) sc_law_size.nd rfl (by first | exact Or.inl rfl | exact Or.inr rfl) se_int)
  (ss_cons (ss_for (vs := [3]) (passes_of rfl) rfl (si_any (se_call ((ok_law_inner T).mono (by omega)) hr (by rfl) T.g_law_inner T.F_law_inner.kp T.b_law_inner .nil (fun _ _ => .nil) rfl tk (sa_cons (se_var 0) sa_nil) (mArgs_len (fun _ _ _ _ h => mArgs0_len h)))) (sg_name (vs := [3]) (i := 3) sc_law_size.nd rfl (by first | exact Or.inl rfl | exact Or.inr rfl))
  (ss_cons (ss_set (i := 4) sc_law_size.nd rfl (by first | exact Or.inl rfl | exact Or.inr rfl) (se_call (G_law_size.mono (by omega)) hr (by rfl) T.g_law_size T.F_law_size.kp T.b_law_size .nil (fun _ _ => .nil) rfl tk (sa_cons (se_var 3) sa_nil) (mArgs_len (fun _ _ _ _ h => mArgs0_len h))))
  (ss_cons (ss_set (i := 1) sc_law_size.nd rfl (by first | exact Or.inl rfl | exact Or.inr rfl) (se_op op_addD (os_add (fz := true)) (se_var 1) (se_ix (se_var 4) se_int)))
  (ss_one (ss_set (i := 2) sc_law_size.nd rfl (by first | exact Or.inl rfl | exact Or.inr rfl) (se_callB (call_max2 rfl) cs_max2 (by rfl) T.z_max bt_max (sa_cons (se_var 2) (sa_cons (se_ix (se_var 4) se_int) sa_nil))))))))
  (ss_one (ss_ret (se_tup (sa_cons (se_var 1) (sa_cons (se_op op_addD (os_add (fz := true)) (se_var 2) se_int) sa_nil))))))))
theorem ok_law_size (T : Tx K w mg c a) : ∀ n, FnG P w K mg base (1 + n) a.f_law_size a.fd_law_size ["_law_decision_here"] (spG ⟨K, c⟩ 1 (m_law_size n))
  | 0 => fnG_no
  | n + 1 => st_law_size (Nat.le_add_right _ _) T (ok_law_size T n)
theorem ok_law_otherwise_told (T : Tx K w mg c a) : FnG P w K mg base 20 a.f_law_otherwise_told a.fd_law_otherwise_told ["_law_decision_here", "_law_word"] (spG ⟨K, c⟩ 2 m_law_otherwise_told) := by
  refine fnG_run (k := 19) T.F_law_otherwise_told sc_law_otherwise_told rfl fun X EX hX tk => ?_
  obtain ⟨cdv, A, outer, s, H, E, rfl, hr, rfl⟩ := hX
  exact (ss_cons (ss_set (i := 2) sc_law_otherwise_told.nd rfl (by first | exact Or.inl rfl | exact Or.inr rfl) se_non)
  (ss_cons (ss_try (i := 3) (cv := .ref (c "TooMany")) rfl rfl sc_law_otherwise_told.nd rfl rfl ⟨by rfl, by decide, .inl T.gx_TooMany⟩ T.em_TooMany (fun EX pn xe tk hpa => (ss_one (ss_set (i := 2) sc_law_otherwise_told.nd rfl (by first | exact Or.inl rfl | exact Or.inr rfl) (se_tup (sa_cons se_str (sa_cons (se_call ((ok_otherwise T).mono (by decide)) hr (by rfl) T.g_otherwise T.F_otherwise.kp T.b_otherwise .nil (fun _ _ => .nil) rfl tk (sa_cons (se_var 0) (sa_cons (se_var 1) sa_nil)) (mArgs_len (mArgs_len (fun _ _ _ _ h => mArgs0_len h)))) sa_nil)))))) (fun _ _ => (ss_one (ss_set (i := 2) sc_law_otherwise_told.nd rfl (by first | exact Or.inl rfl | exact Or.inr rfl) (se_tup (sa_cons se_str (sa_cons (se_xf (se_var 3) T.xr_size) sa_nil)))))))
  (ss_one (ss_ret (se_var 2)))))
theorem st_law_all_parts {k : Nat} (hk : 1 ≤ k) {r_law_all_parts : List D → List O → R D} (T : Tx K w mg c a) (G_law_all_parts : FnG P w K mg base k a.f_law_all_parts a.fd_law_all_parts ["_law_decision_here"] (spG ⟨K, c⟩ 1 r_law_all_parts)) : FnG P w K mg base (k + 1) a.f_law_all_parts a.fd_law_all_parts ["_law_decision_here"] (spG ⟨K, c⟩ 1 (runB n_law_all_parts.length (b_law_all_parts r_law_all_parts))) := by
  refine fnG_run T.F_law_all_parts sc_law_all_parts rfl fun X EX hX tk => ?_
  obtain ⟨cdv, A, outer, s, H, E, rfl, hr, rfl⟩ := hX
  exact (ss_cons (ss_set (i := 1) sc_law_all_parts.nd rfl (by first | exact Or.inl rfl | exact Or.inr rfl) (se_lst (fz := true) (sa_cons (se_var 0) sa_nil)))
  (ss_cons (ss_for (vs := [2]) (passes_of rfl) rfl (si_any (se_call ((ok_law_inner T).mono (by omega)) hr (by rfl) T.g_law_inner T.F_law_inner.kp T.b_law_inner .nil (fun _ _ => .nil) rfl tk (sa_cons (se_var 0) sa_nil) (mArgs_len (fun _ _ _ _ h => mArgs0_len h)))) (sg_name (vs := [2]) (i := 2) sc_law_all_parts.nd rfl (by first | exact Or.inl rfl | exact Or.inr rfl))
  (ss_one (ss_set (i := 1) sc_law_all_parts.nd rfl (by first | exact Or.inl rfl | exact Or.inr rfl) (se_op op_addD (os_add (fz := true)) (se_var 1) (se_call (G_law_all_parts.mono (by omega)) hr (by rfl) T.g_law_all_parts T.F_law_all_parts.kp T.b_law_all_parts .nil (fun _ _ => .nil) rfl tk (sa_cons (se_var 2) sa_nil) (mArgs_len (fun _ _ _ _ h => mArgs0_len h)))))))
  (ss_one (ss_ret (se_var 1)))))
theorem ok_law_all_parts (T : Tx K w mg c a) : ∀ n, FnG P w K mg base (1 + n) a.f_law_all_parts a.fd_law_all_parts ["_law_decision_here"] (spG ⟨K, c⟩ 1 (m_law_all_parts n))
  | 0 => fnG_no
  | n + 1 => st_law_all_parts (Nat.le_add_right _ _) T (ok_law_all_parts T n)
theorem ok_law_clean (T : Tx K w mg c a) : FnG P w K mg base 2 a.f_law_clean a.fd_law_clean ["_law_word", "_law_decision_here"] (spG ⟨K, c⟩ 2 m_law_clean) := by
  refine fnG_run (k := 1) T.F_law_clean sc_law_clean rfl fun X EX hX tk => ?_
  obtain ⟨cdv, A, outer, s, H, E, rfl, hr, rfl⟩ := hX
  exact (ss_cons (ss_set (i := 2) sc_law_clean.nd rfl (by first | exact Or.inl rfl | exact Or.inr rfl) (se_call ((ok_law_inner T).mono (by decide)) hr (by rfl) T.g_law_inner T.F_law_inner.kp T.b_law_inner .nil (fun _ _ => .nil) rfl tk (sa_cons (se_var 1) sa_nil) (mArgs_len (fun _ _ _ _ h => mArgs0_len h))))
  (ss_cons (ss_if (st_cmp (op_eqS hr.room.units) os_eq (se_var 0) se_str)
  (ss_one (ss_ret (se_or (se_cmp (op_neS hr.room.units) os_ne (se_ix (se_var 1) se_int) se_str) (se_one (se_cmp (op_eqS hr.room.units) os_eq (se_ix (se_ix (se_var 2) se_int) se_int) se_str)))))
  ss_nil)
  (ss_cons (ss_if (st_cmp (op_eqS hr.room.units) os_eq (se_var 0) se_str)
  (ss_one (ss_ret (se_cmp (op_neS hr.room.units) os_ne (se_ix (se_var 1) se_int) se_str)))
  ss_nil)
  (ss_cons (ss_if (st_cmp (op_eqS hr.room.units) os_eq (se_var 0) se_str)
  (ss_cons (ss_if (st_cmp op_notInX os_in (se_ix (se_var 1) se_int) (se_lst (fz := true) (sa_cons se_str (sa_cons se_str sa_nil))))
  (ss_one (ss_ret se_bl))
  ss_nil)
  (ss_cons (ss_set (i := 3) sc_law_clean.nd rfl (by first | exact Or.inl rfl | exact Or.inr rfl) (se_callB (cr_sum rfl) cs_sum (by rfl) T.z_sum bt_sum (sa_cons (se_lc (own := [("_law_part", 4)]) (fz := true) rfl sc_law_clean.nd (si_any (se_var 2)) (by refine blkOk_by ?_; show blkC n_law_clean (defScope s_law_clean) _ _ = true; decide +kernel) (fun _ _ _ _ _ => (sg_name (vs := [4]) (i := 4) sc_law_clean.nd rfl (by first | exact Or.inl rfl | exact Or.inr rfl))) (fun _ _ _ _ _ => sts_nil) (fun _ _ _ _ _ => (se_ix (se_lst (fz := true) (sa_cons se_int (sa_cons (se_callB call_len cs_len (by rfl) T.z_len bt_len (sa_cons (se_call ((ok_law_inner T).mono (by decide)) hr (by rfl) T.g_law_inner T.F_law_inner.kp T.b_law_inner .nil (fun _ _ => .nil) rfl takes0 (sa_cons (se_var 4) sa_nil) (mArgs_len (fun _ _ _ _ h => mArgs0_len h))) sa_nil)) sa_nil))) (se_callTy call_int1 cs_int (by rfl) T.z_int bt_int (sa_cons (se_cmp (op_eqS hr.room.units) os_eq (se_ix (se_var 4) se_int) (se_ix (se_var 1) se_int)) sa_nil))))) sa_nil)))
  (ss_one (ss_ret (se_and (se_cmp op_gt os_gt (se_callB call_len cs_len (by rfl) T.z_len bt_len (sa_cons (se_var 2) sa_nil)) se_int) (se_one (se_or (se_cmp (op_eqS hr.room.units) os_eq (se_var 3) (se_callB call_len cs_len (by rfl) T.z_len bt_len (sa_cons (se_var 2) sa_nil))) (se_one (se_cmp op_gt os_gt (se_var 3) se_int)))))))))
  ss_nil)
  (ss_cons (ss_if (st_cmp op_inX os_in (se_ix (se_var 1) se_int) (se_lst (fz := true) (sa_cons se_str (sa_cons se_str (sa_cons se_str sa_nil)))))
  (ss_one (ss_ret (se_cmp (op_eqS hr.room.units) os_eq (se_lc (own := [("_law_part", 4)]) (fz := true) rfl sc_law_clean.nd (si_any (se_var 2)) (by refine blkOk_by ?_; show blkC n_law_clean (defScope s_law_clean) _ _ = true; decide +kernel) (fun _ _ _ _ _ => (sg_name (vs := [4]) (i := 4) sc_law_clean.nd rfl (by first | exact Or.inl rfl | exact Or.inr rfl))) (fun _ _ _ _ _ => (sts_one (st_cmp op_inX os_in (se_ix (se_var 4) se_int) (se_lst (fz := true) (sa_cons se_str (sa_cons se_str sa_nil)))))) (fun _ _ _ _ _ => (se_var 4))) (se_lst (fz := true) sa_nil))))
  ss_nil)
  (ss_one (ss_ret (se_cmp (op_eqS hr.room.units) os_eq (se_lc (own := [("_law_part", 4)]) (fz := true) rfl sc_law_clean.nd (si_any (se_sl2 (fz := true) (se_var 2))) (by refine blkOk_by ?_; show blkC n_law_clean (defScope s_law_clean) _ _ = true; decide +kernel) (fun _ _ _ _ _ => (sg_name (vs := [4]) (i := 4) sc_law_clean.nd rfl (by first | exact Or.inl rfl | exact Or.inr rfl))) (fun _ _ _ _ _ => (sts_one (st_cmp op_inX os_in (se_ix (se_var 4) se_int) (se_lst (fz := true) (sa_cons se_str (sa_cons se_str sa_nil)))))) (fun _ _ _ _ _ => (se_var 4))) (se_lst (fz := true) sa_nil)))))))))
theorem ok_law_word_right (T : Tx K w mg c a) : FnG P w K mg base 21 a.f_law_word_right a.fd_law_word_right ["_law_drawn", "_law_word"] (spG ⟨K, c⟩ 2 m_law_word_right) := by
  refine fnG_run (k := 20) T.F_law_word_right sc_law_word_right rfl fun X EX hX tk => ?_
  obtain ⟨cdv, A, outer, s, H, E, rfl, hr, rfl⟩ := hX
  exact (ss_cons (ss_set (i := 2) sc_law_word_right.nd rfl (by first | exact Or.inl rfl | exact Or.inr rfl) (se_call ((ok_law_otherwise_told T).mono (by decide)) hr (by rfl) T.g_law_otherwise_told T.F_law_otherwise_told.kp T.b_law_otherwise_told .nil (fun _ _ => .nil) rfl tk (sa_cons (se_var 0) (sa_cons (se_var 1) sa_nil)) (mArgs_len (mArgs_len (fun _ _ _ _ h => mArgs0_len h)))))
  (ss_cons (ss_if (st_cmp (op_eqS hr.room.units) os_eq (se_ix (se_var 2) se_int) se_str)
  (ss_one (ss_ret se_bl))
  ss_nil)
  (ss_cons (ss_if (st_cmp (op_neS hr.room.units) os_ne (se_lc (own := [("_law_part", 3)]) (fz := true) rfl sc_law_word_right.nd (si_any (se_call ((ok_law_all_parts T 16).mono (by decide)) hr (by rfl) T.g_law_all_parts T.F_law_all_parts.kp T.b_law_all_parts .nil (fun _ _ => .nil) rfl tk (sa_cons (se_ix (se_var 2) se_int) sa_nil) (mArgs_len (fun _ _ _ _ h => mArgs0_len h)))) (by refine blkOk_by ?_; show blkC n_law_word_right (defScope s_law_word_right) _ _ = true; decide +kernel) (fun _ _ _ _ _ => (sg_name (vs := [3]) (i := 3) sc_law_word_right.nd rfl (by first | exact Or.inl rfl | exact Or.inr rfl))) (fun _ _ _ _ _ => (sts_one (st_not (st_val (se_call ((ok_law_clean T).mono (by decide)) hr (by rfl) T.g_law_clean T.F_law_clean.kp T.b_law_clean .nil (fun _ _ => .nil) rfl takes0 (sa_cons (se_var 1) (sa_cons (se_var 3) sa_nil)) (mArgs_len (mArgs_len (fun _ _ _ _ h => mArgs0_len h)))))))) (fun _ _ _ _ _ => (se_var 3))) (se_lst (fz := true) sa_nil))
  (ss_one (ss_ret se_bl))
  ss_nil)
  (ss_one (ss_ret (se_cmp (op_eqS hr.room.units) os_eq (se_call ((ok_law_otherwise_told T).mono (by decide)) hr (by rfl) T.g_law_otherwise_told T.F_law_otherwise_told.kp T.b_law_otherwise_told .nil (fun _ _ => .nil) rfl tk (sa_cons (se_ix (se_var 2) se_int) (sa_cons (se_var 1) sa_nil)) (mArgs_len (mArgs_len (fun _ _ _ _ h => mArgs0_len h)))) (se_var 2)))))))
theorem ok_law (T : Tx K w mg c a) : FnG P w K mg base 22 a.f_law a.fd_law ["_law_script"] (spG ⟨K, c⟩ 1 m_law) := by
  refine fnG_run (k := 21) T.F_law sc_law rfl fun X EX hX tk => ?_
  obtain ⟨cdv, A, outer, s, H, E, rfl, hr, rfl⟩ := hX
  exact (ss_cons (ss_for (vs := [1]) (passes_of rfl) rfl (si_range1 (by rfl) T.z_range (sa_cons (se_callB (call_max2 rfl) cs_max2 (by rfl) T.z_max bt_max (sa_cons se_int (sa_cons (se_callB (call_min2 rfl) cs_min2 (by rfl) T.z_min bt_min (sa_cons se_int (sa_cons (se_callB call_len cs_len (by rfl) T.z_len bt_len (sa_cons (se_var 0) sa_nil)) sa_nil))) sa_nil))) sa_nil)) (sg_name (vs := [1]) (i := 1) sc_law.nd rfl (by first | exact Or.inl rfl | exact Or.inr rfl))
  (ss_cons (ss_set (i := 2) sc_law.nd rfl (by first | exact Or.inl rfl | exact Or.inr rfl) (se_call ((ok_law_pool T).mono (by decide)) hr (by rfl) T.g_law_pool T.F_law_pool.kp T.b_law_pool .nil (fun _ _ => .nil) rfl tk (sa_cons (se_var 0) (sa_cons (se_var 1) sa_nil)) (mArgs_len (mArgs_len (fun _ _ _ _ h => mArgs0_len h)))))
  (ss_cons (ss_set (i := 3) sc_law.nd rfl (by first | exact Or.inl rfl | exact Or.inr rfl) (se_call ((ok_law_decision T 16).mono (by decide)) hr (by rfl) T.g_law_decision T.F_law_decision.kp T.b_law_decision .nil (fun _ _ => .nil) rfl tk (sa_cons (se_var 2) (sa_cons (se_op op_addD (os_add (fz := true)) se_int (se_call ((ok_law_take T).mono (by decide)) hr (by rfl) T.g_law_take T.F_law_take.kp T.b_law_take .nil (fun _ _ => .nil) rfl tk (sa_cons (se_var 2) (sa_cons se_int sa_nil)) (mArgs_len (mArgs_len (fun _ _ _ _ h => mArgs0_len h))))) (sa_cons (se_op op_addD (os_add (fz := true)) se_int (se_call ((ok_law_take T).mono (by decide)) hr (by rfl) T.g_law_take T.F_law_take.kp T.b_law_take .nil (fun _ _ => .nil) rfl tk (sa_cons (se_var 2) (sa_cons se_int sa_nil)) (mArgs_len (mArgs_len (fun _ _ _ _ h => mArgs0_len h))))) (sa_cons (se_op op_addD (os_add (fz := true)) se_int (se_call ((ok_law_take T).mono (by decide)) hr (by rfl) T.g_law_take T.F_law_take.kp T.b_law_take .nil (fun _ _ => .nil) rfl tk (sa_cons (se_var 2) (sa_cons se_int sa_nil)) (mArgs_len (mArgs_len (fun _ _ _ _ h => mArgs0_len h))))) sa_nil)))) (mArgs_len (mArgs_len (mArgs_len (mArgs_len (fun _ _ _ _ h => mArgs0_len h)))))))
  (ss_cons (ss_set (i := 3) sc_law.nd rfl (by first | exact Or.inl rfl | exact Or.inr rfl) (se_call ((ok_law_strewn T 16).mono (by decide)) hr (by rfl) T.g_law_strewn T.F_law_strewn.kp T.b_law_strewn .nil (fun _ _ => .nil) rfl tk (sa_cons (se_var 2) (sa_cons (se_var 3) (sa_cons (se_op op_addD (os_add (fz := true)) se_int (se_call ((ok_law_take T).mono (by decide)) hr (by rfl) T.g_law_take T.F_law_take.kp T.b_law_take .nil (fun _ _ => .nil) rfl tk (sa_cons (se_var 2) (sa_cons se_int sa_nil)) (mArgs_len (mArgs_len (fun _ _ _ _ h => mArgs0_len h))))) sa_nil))) (mArgs_len (mArgs_len (mArgs_len (fun _ _ _ _ h => mArgs0_len h))))))
  (ss_cons (ss_for (vs := [4]) (passes_of rfl) rfl (si_any (se_lst (fz := true) (sa_cons (se_var 3) (sa_cons (se_tup (sa_cons se_str (sa_cons (se_var 3) sa_nil))) sa_nil)))) (sg_name (vs := [4]) (i := 4) sc_law.nd rfl (by first | exact Or.inl rfl | exact Or.inr rfl))
  (ss_one (ss_for (vs := [6]) (passes_of rfl) rfl (si_any (se_lst (fz := true) (sa_cons se_str (sa_cons se_str (sa_cons se_str (sa_cons se_str sa_nil)))))) (sg_name (vs := [6]) (i := 6) sc_law.nd rfl (by first | exact Or.inl rfl | exact Or.inr rfl))
  (ss_one (ss_if (st_not (st_val (se_call ((ok_law_word_right T).mono (by decide)) hr (by rfl) T.g_law_word_right T.F_law_word_right.kp T.b_law_word_right .nil (fun _ _ => .nil) rfl tk (sa_cons (se_var 4) (sa_cons (se_var 6) sa_nil)) (mArgs_len (mArgs_len (fun _ _ _ _ h => mArgs0_len h))))))
  (ss_one (ss_ret se_bl))
  ss_nil)))))
  (ss_cons (ss_set (i := 5) sc_law.nd rfl (by first | exact Or.inl rfl | exact Or.inr rfl) (se_call ((ok_law_otherwise_told T).mono (by decide)) hr (by rfl) T.g_law_otherwise_told T.F_law_otherwise_told.kp T.b_law_otherwise_told .nil (fun _ _ => .nil) rfl tk (sa_cons (se_var 3) (sa_cons se_str sa_nil)) (mArgs_len (mArgs_len (fun _ _ _ _ h => mArgs0_len h)))))
  (ss_one (ss_if (PW.pt (sw_and (st_cmp (op_eqS hr.room.units) os_eq (se_ix (se_var 5) se_int) se_str) (sw_and (st_cmp op_lt os_lt (se_ix (se_call ((ok_law_size T 16).mono (by decide)) hr (by rfl) T.g_law_size T.F_law_size.kp T.b_law_size .nil (fun _ _ => .nil) rfl tk (sa_cons (se_ix (se_var 5) se_int) sa_nil) (mArgs_len (fun _ _ _ _ h => mArgs0_len h))) se_int) se_int) (sw_and1 (st_cmp op_lt os_lt (se_ix (se_call ((ok_law_size T 16).mono (by decide)) hr (by rfl) T.g_law_size T.F_law_size.kp T.b_law_size .nil (fun _ _ => .nil) rfl tk (sa_cons (se_ix (se_var 5) se_int) sa_nil) (mArgs_len (fun _ _ _ _ h => mArgs0_len h))) se_int) se_int)))))
  (ss_one (ss_if (st_cmp (op_neS hr.room.units) os_ne (se_call ((ok_law_otherwise_told T).mono (by decide)) hr (by rfl) T.g_law_otherwise_told T.F_law_otherwise_told.kp T.b_law_otherwise_told .nil (fun _ _ => .nil) rfl tk (sa_cons (se_tup (sa_cons se_str (sa_cons (se_ix (se_var 5) se_int) sa_nil))) (sa_cons se_str sa_nil)) (mArgs_len (mArgs_len (fun _ _ _ _ h => mArgs0_len h)))) (se_call ((ok_law_otherwise_told T).mono (by decide)) hr (by rfl) T.g_law_otherwise_told T.F_law_otherwise_told.kp T.b_law_otherwise_told .nil (fun _ _ => .nil) rfl tk (sa_cons (se_tup (sa_cons se_str (sa_cons (se_var 3) sa_nil))) (sa_cons se_str sa_nil)) (mArgs_len (mArgs_len (fun _ _ _ _ h => mArgs0_len h)))))
  (ss_one (ss_ret se_bl))
  ss_nil))
  ss_nil))))))))
  (ss_one (ss_ret se_bl)))
end
theorem all_mk {l : PySem.W.OpenLaw} {w : World} {K : PySem.W.Frag} {h : Heap} {mg : Str → Option Value} {fa : Addr} (X : K.In h) (G : h.Ns mainGlobals mg) (hfa : mg "law" = some (.ref fa))
    {X0 : Addr}
    {X1 : Addr}
    {fx1 : Addr} {odx1 anx1 : Option Addr} {slx1 : Array (Option Value)} {ocx1 kVx1 dcx1 pmx1 cdx1 ctx1 : Value} {nmx1 qx1 : Str} {Nx1 : Addr} {bsx1 : List Value} {snx1 : List Str} {subx1 : List Value} {abx1 : Bool} {colx1 : Option Bool} {ddx1 : Option Addr} {m0x1 m1x1 m2x1 m3x1 m5x1 : Option Value}
    {X2 : Addr}
    {f0 : Addr} {od0 an0 : Option Addr} {sl0 : Array (Option Value)} {oc0 kV0 dc0 pm0 cd0 ct0 : Value}
    {f1 : Addr} {od1 an1 : Option Addr} {sl1 : Array (Option Value)} {oc1 kV1 dc1 pm1 cd1 ct1 : Value}
    {f2 : Addr} {od2 an2 : Option Addr} {sl2 : Array (Option Value)} {oc2 kV2 dc2 pm2 cd2 ct2 : Value}
    {f3 : Addr} {od3 an3 : Option Addr} {sl3 : Array (Option Value)} {oc3 kV3 dc3 pm3 cd3 ct3 : Value}
    {f4 : Addr} {od4 an4 : Option Addr} {sl4 : Array (Option Value)} {oc4 kV4 dc4 pm4 cd4 ct4 : Value}
    {f5 : Addr} {od5 an5 : Option Addr} {sl5 : Array (Option Value)} {oc5 kV5 dc5 pm5 cd5 ct5 : Value}
    {f6 : Addr} {od6 an6 : Option Addr} {sl6 : Array (Option Value)} {oc6 kV6 dc6 pm6 cd6 ct6 : Value}
    {f7 : Addr} {od7 an7 : Option Addr} {sl7 : Array (Option Value)} {oc7 kV7 dc7 pm7 cd7 ct7 : Value}
    {f8 : Addr} {od8 an8 : Option Addr} {sl8 : Array (Option Value)} {oc8 kV8 dc8 pm8 cd8 ct8 : Value}
    {f9 : Addr} {od9 an9 : Option Addr} {sl9 : Array (Option Value)} {oc9 kV9 dc9 pm9 cd9 ct9 : Value}
    {f10 : Addr} {od10 an10 : Option Addr} {sl10 : Array (Option Value)} {oc10 kV10 dc10 pm10 cd10 ct10 : Value}
    {f11 : Addr} {od11 an11 : Option Addr} {sl11 : Array (Option Value)} {oc11 kV11 dc11 pm11 cd11 ct11 : Value}
    {f12 : Addr} {od12 an12 : Option Addr} {sl12 : Array (Option Value)} {oc12 kV12 dc12 pm12 cd12 ct12 : Value}
    {f13 : Addr} {od13 an13 : Option Addr} {sl13 : Array (Option Value)} {oc13 kV13 dc13 pm13 cd13 ct13 : Value}
    {f14 : Addr} {od14 an14 : Option Addr} {sl14 : Array (Option Value)} {oc14 kV14 dc14 pm14 cd14 ct14 : Value}
    {f15 : Addr} {od15 an15 : Option Addr} {sl15 : Array (Option Value)} {oc15 kV15 dc15 pm15 cd15 ct15 : Value}
    {f16 : Addr} {od16 an16 : Option Addr} {sl16 : Array (Option Value)} {oc16 kV16 dc16 pm16 cd16 ct16 : Value}
    {f17 : Addr} {od17 an17 : Option Addr} {sl17 : Array (Option Value)} {oc17 kV17 dc17 pm17 cd17 ct17 : Value}
    {f18 : Addr} {od18 an18 : Option Addr} {sl18 : Array (Option Value)} {oc18 kV18 dc18 pm18 cd18 ct18 : Value}
    {f19 : Addr} {od19 an19 : Option Addr} {sl19 : Array (Option Value)} {oc19 kV19 dc19 pm19 cd19 ct19 : Value}
    {f20 : Addr} {od20 an20 : Option Addr} {sl20 : Array (Option Value)} {oc20 kV20 dc20 pm20 cd20 ct20 : Value}
    {f21 : Addr} {od21 an21 : Option Addr} {sl21 : Array (Option Value)} {oc21 kV21 dc21 pm21 cd21 ct21 : Value}
    {f22 : Addr} {od22 an22 : Option Addr} {sl22 : Array (Option Value)} {oc22 kV22 dc22 pm22 cd22 ct22 : Value}
    {f23 : Addr} {od23 an23 : Option Addr} {sl23 : Array (Option Value)} {oc23 kV23 dc23 pm23 cd23 ct23 : Value}
    {f24 : Addr} {od24 an24 : Option Addr} {sl24 : Array (Option Value)} {oc24 kV24 dc24 pm24 cd24 ct24 : Value}
    {t_DEEPEST : Tok}
    {t_MOST_PARTS : Tok}
    {t_MOST_WITHIN : Tok}
    {TG_NO : Addr}
    {TG_YES : Addr}
    {RD_RULES : Addr}
    (xspec : PySem.W.specialIn K (.builtin "object.__class__") "__get__" = some (some (.builtin "getset_descriptor.__get__")))
    (xtake : PySem.W.takesIn K (.builtin "object.__class__") = some true)
    (xa0 : PySem.W.nsIn K mainGlobals "AloneError" = some (some (.ref X0)))
    (xs0 : PySem.W.subIn K (.ref X0) (.type "BaseException") = some true)
    (xt0 : PySem.W.typeIn K (.ref X0) = some (.type "type"))
    (xq0 : PySem.W.specialIn K (.ref X0) "__getattribute__" = some (some (.builtin "type.__getattribute__")))
    (xr0 : PySem.W.readsIn K X0 (.type "type") = true)
    (xv0 : PySem.W.findCls K (.ref X0) (.type "type") "__init__" = some (.val (.builtin "ValueError.__init__")))
    (xg0 : PySem.W.findIn K (.ref X0) "__getattribute__" = some (some (.builtin "BaseException.__getattribute__")))
    (xh0 : PySem.W.findIn K (.ref X0) "__getattr__" = some none)
    (xd0 : PySem.W.hasDictIn K X0 = true)
    (xc0 : PySem.W.findIn K (.ref X0) "__class__" = some (some (.builtin "object.__class__")))
    (xm0 : PySem.W.mroIn K X0 (.type "object") = some true)
    (xa1 : PySem.W.nsIn K mainGlobals "TooMany" = some (some (.ref X1)))
    (xs1 : PySem.W.subIn K (.ref X1) (.type "BaseException") = some true)
    (xt1 : PySem.W.typeIn K (.ref X1) = some (.type "type"))
    (xl1 : K.lookup X1 = some (excClassObj nmx1 qx1 X1 Nx1 bsx1 [.ref X0, .type "ValueError", .type "Exception", .type "BaseException", .type "object"] true snx1 subx1 abx1 colx1 ddx1 m0x1 m1x1 m2x1 m3x1 m5x1 "ValueError.__new__"))
    (xsa1 : PySem.W.findIn K (.ref X1) "__setattr__" = some (some (.builtin "object.__setattr__")))
    (xk1 : PySem.W.keepIn K (.ref X1) = true)
    (xi1 : PySem.W.findIn K (.ref X1) "__init__" = some (some (.ref fx1)))
    (xti1 : PySem.W.typeIn K (.ref fx1) = some (.type "function"))
    (xlf1 : K.lookup fx1 = some ⟨ocx1, odx1, .func (PySem.W.fnOf "__init__" "TooMany.__init__" (defArgs sx_TooMany) (defBody sx_TooMany) (defScope sx_TooMany) .none kVx1 dcx1 pmx1 anx1 cdx1 ctx1), slx1⟩)
    (xcf1 : PySem.W.codeIn K cdx1 "TooMany.__init__" = true)
    (xkf1 : PySem.W.keepIn K (.ref fx1) = true)
    (xnf1_0 : PySem.W.findIn K (.ref X1) "size" = some none)
    (xg1 : PySem.W.findIn K (.ref X1) "__getattribute__" = some (some (.builtin "BaseException.__getattribute__")))
    (xh1 : PySem.W.findIn K (.ref X1) "__getattr__" = some none)
    (xd1 : PySem.W.hasDictIn K X1 = true)
    (xc1 : PySem.W.findIn K (.ref X1) "__class__" = some (some (.builtin "object.__class__")))
    (xm1 : PySem.W.mroIn K X1 (.type "object") = some true)
    (xa2 : PySem.W.nsIn K mainGlobals "NoWord" = some (some (.ref X2)))
    (xs2 : PySem.W.subIn K (.ref X2) (.type "BaseException") = some true)
    (xt2 : PySem.W.typeIn K (.ref X2) = some (.type "type"))
    (xe2 : PySem.W.excIn K X2 [.type "ValueError", .type "Exception", .type "BaseException", .type "object"] "ValueError.__new__" = true)
    (xk2 : PySem.W.keepIn K (.ref X2) = true)
    (xg2 : PySem.W.findIn K (.ref X2) "__getattribute__" = some (some (.builtin "BaseException.__getattribute__")))
    (xh2 : PySem.W.findIn K (.ref X2) "__getattr__" = some none)
    (xd2 : PySem.W.hasDictIn K X2 = true)
    (xc2 : PySem.W.findIn K (.ref X2) "__class__" = some (some (.builtin "object.__class__")))
    (xm2 : PySem.W.mroIn K X2 (.type "object") = some true)
    (x0_1 : PySem.W.subIn K (.ref X1) (.ref X1) = some true)
    (xp1_0 : PySem.W.subIn K (.ref X1) (.ref X0) = some true)
    (x0_2 : PySem.W.subIn K (.ref X2) (.ref X2) = some true)
    (xp2_0 : PySem.W.subIn K (.ref X2) (.ref X0) = some true)
    (xp2_1 : PySem.W.subIn K (.ref X2) (.ref X1) = some false)
    (a0_0 : PySem.W.nsIn K mainGlobals "inner_parts" = some (some (.ref f0)))
    (l0 : K.lookup f0 = some ⟨oc0, od0, .func (PySem.W.fnOf "inner_parts" "inner_parts" (defArgs s_inner_parts) (defBody s_inner_parts) (defScope s_inner_parts) .none kV0 dc0 pm0 an0 cd0 ct0), sl0⟩)
    (c0 : PySem.W.codeIn K cd0 "inner_parts" = true)
    (k0 : PySem.W.keepIn K (.ref f0) = true)
    (a1_0 : PySem.W.nsIn K mainGlobals "rebuilt" = some (some (.ref f1)))
    (l1 : K.lookup f1 = some ⟨oc1, od1, .func (PySem.W.fnOf "rebuilt" "rebuilt" (defArgs s_rebuilt) (defBody s_rebuilt) (defScope s_rebuilt) .none kV1 dc1 pm1 an1 cd1 ct1), sl1⟩)
    (c1 : PySem.W.codeIn K cd1 "rebuilt" = true)
    (k1 : PySem.W.keepIn K (.ref f1) = true)
    (a2_0 : PySem.W.nsIn K mainGlobals "other_word" = some (some (.ref f2)))
    (l2 : K.lookup f2 = some ⟨oc2, od2, .func (PySem.W.fnOf "other_word" "other_word" (defArgs s_other_word) (defBody s_other_word) (defScope s_other_word) .none kV2 dc2 pm2 an2 cd2 ct2), sl2⟩)
    (c2 : PySem.W.codeIn K cd2 "other_word" = true)
    (k2 : PySem.W.keepIn K (.ref f2) = true)
    (a3_0 : PySem.W.nsIn K mainGlobals "pushed_by" = some (some (.ref f3)))
    (l3 : K.lookup f3 = some ⟨oc3, od3, .func (PySem.W.fnOf "pushed_by" "pushed_by" (defArgs s_pushed_by) (defBody s_pushed_by) (defScope s_pushed_by) .none kV3 dc3 pm3 an3 cd3 ct3), sl3⟩)
    (c3 : PySem.W.codeIn K cd3 "pushed_by" = true)
    (k3 : PySem.W.keepIn K (.ref f3) = true)
    (a4_0 : PySem.W.nsIn K mainGlobals "pushed" = some (some (.ref f4)))
    (l4 : K.lookup f4 = some ⟨oc4, od4, .func (PySem.W.fnOf "pushed" "pushed" (defArgs s_pushed) (defBody s_pushed) (defScope s_pushed) .none kV4 dc4 pm4 an4 cd4 ct4), sl4⟩)
    (c4 : PySem.W.codeIn K cd4 "pushed" = true)
    (k4 : PySem.W.keepIn K (.ref f4) = true)
    (a5_0 : PySem.W.nsIn K mainGlobals "opened" = some (some (.ref f5)))
    (l5 : K.lookup f5 = some ⟨oc5, od5, .func (PySem.W.fnOf "opened" "opened" (defArgs s_opened) (defBody s_opened) (defScope s_opened) .none kV5 dc5 pm5 an5 cd5 ct5), sl5⟩)
    (c5 : PySem.W.codeIn K cd5 "opened" = true)
    (k5 : PySem.W.keepIn K (.ref f5) = true)
    (a6_0 : PySem.W.nsIn K mainGlobals "joined" = some (some (.ref f6)))
    (l6 : K.lookup f6 = some ⟨oc6, od6, .func (PySem.W.fnOf "joined" "joined" (defArgs s_joined) (defBody s_joined) (defScope s_joined) .none kV6 dc6 pm6 an6 cd6 ct6), sl6⟩)
    (c6 : PySem.W.codeIn K cd6 "joined" = true)
    (k6 : PySem.W.keepIn K (.ref f6) = true)
    (a7_0 : PySem.W.nsIn K mainGlobals "lean_cases" = some (some (.ref f7)))
    (l7 : K.lookup f7 = some ⟨oc7, od7, .func (PySem.W.fnOf "lean_cases" "lean_cases" (defArgs s_lean_cases) (defBody s_lean_cases) (defScope s_lean_cases) .none kV7 dc7 pm7 an7 cd7 ct7), sl7⟩)
    (c7 : PySem.W.codeIn K cd7 "lean_cases" = true)
    (k7 : PySem.W.keepIn K (.ref f7) = true)
    (a8_0 : PySem.W.nsIn K mainGlobals "lean" = some (some (.ref f8)))
    (l8 : K.lookup f8 = some ⟨oc8, od8, .func (PySem.W.fnOf "lean" "lean" (defArgs s_lean) (defBody s_lean) (defScope s_lean) .none kV8 dc8 pm8 an8 cd8 ct8), sl8⟩)
    (c8 : PySem.W.codeIn K cd8 "lean" = true)
    (k8 : PySem.W.keepIn K (.ref f8) = true)
    (a9_0 : PySem.W.nsIn K mainGlobals "size_of" = some (some (.ref f9)))
    (l9 : K.lookup f9 = some ⟨oc9, od9, .func (PySem.W.fnOf "size_of" "size_of" (defArgs s_size_of) (defBody s_size_of) (defScope s_size_of) .none kV9 dc9 pm9 an9 cd9 ct9), sl9⟩)
    (c9 : PySem.W.codeIn K cd9 "size_of" = true)
    (k9 : PySem.W.keepIn K (.ref f9) = true)
    (a10_0 : PySem.W.nsIn K mainGlobals "opened_size" = some (some (.ref f10)))
    (l10 : K.lookup f10 = some ⟨oc10, od10, .func (PySem.W.fnOf "opened_size" "opened_size" (defArgs s_opened_size) (defBody s_opened_size) (defScope s_opened_size) .none kV10 dc10 pm10 an10 cd10 ct10), sl10⟩)
    (c10 : PySem.W.codeIn K cd10 "opened_size" = true)
    (k10 : PySem.W.keepIn K (.ref f10) = true)
    (a11_0 : PySem.W.nsIn K mainGlobals "look_at_great" = some (some (.ref f11)))
    (l11 : K.lookup f11 = some ⟨oc11, od11, .func (PySem.W.fnOf "look_at_great" "look_at_great" (defArgs s_look_at_great) (defBody s_look_at_great) (defScope s_look_at_great) .none kV11 dc11 pm11 an11 cd11 ct11), sl11⟩)
    (c11 : PySem.W.codeIn K cd11 "look_at_great" = true)
    (k11 : PySem.W.keepIn K (.ref f11) = true)
    (a12_0 : PySem.W.nsIn K mainGlobals "otherwise" = some (some (.ref f12)))
    (l12 : K.lookup f12 = some ⟨oc12, od12, .func (PySem.W.fnOf "otherwise" "otherwise" (defArgs s_otherwise) (defBody s_otherwise) (defScope s_otherwise) .none kV12 dc12 pm12 an12 cd12 ct12), sl12⟩)
    (c12 : PySem.W.codeIn K cd12 "otherwise" = true)
    (k12 : PySem.W.keepIn K (.ref f12) = true)
    (a13_0 : PySem.W.nsIn K mainGlobals "_law_pool" = some (some (.ref f13)))
    (l13 : K.lookup f13 = some ⟨oc13, od13, .func (PySem.W.fnOf "_law_pool" "_law_pool" (defArgs s_law_pool) (defBody s_law_pool) (defScope s_law_pool) .none kV13 dc13 pm13 an13 cd13 ct13), sl13⟩)
    (c13 : PySem.W.codeIn K cd13 "_law_pool" = true)
    (k13 : PySem.W.keepIn K (.ref f13) = true)
    (a14_0 : PySem.W.nsIn K mainGlobals "_law_take" = some (some (.ref f14)))
    (l14 : K.lookup f14 = some ⟨oc14, od14, .func (PySem.W.fnOf "_law_take" "_law_take" (defArgs s_law_take) (defBody s_law_take) (defScope s_law_take) .none kV14 dc14 pm14 an14 cd14 ct14), sl14⟩)
    (c14 : PySem.W.codeIn K cd14 "_law_take" = true)
    (k14 : PySem.W.keepIn K (.ref f14) = true)
    (a15_0 : PySem.W.nsIn K mainGlobals "_law_decision" = some (some (.ref f15)))
    (l15 : K.lookup f15 = some ⟨oc15, od15, .func (PySem.W.fnOf "_law_decision" "_law_decision" (defArgs s_law_decision) (defBody s_law_decision) (defScope s_law_decision) .none kV15 dc15 pm15 an15 cd15 ct15), sl15⟩)
    (c15 : PySem.W.codeIn K cd15 "_law_decision" = true)
    (k15 : PySem.W.keepIn K (.ref f15) = true)
    (a16_0 : PySem.W.nsIn K mainGlobals "_law_inner" = some (some (.ref f16)))
    (l16 : K.lookup f16 = some ⟨oc16, od16, .func (PySem.W.fnOf "_law_inner" "_law_inner" (defArgs s_law_inner) (defBody s_law_inner) (defScope s_law_inner) .none kV16 dc16 pm16 an16 cd16 ct16), sl16⟩)
    (c16 : PySem.W.codeIn K cd16 "_law_inner" = true)
    (k16 : PySem.W.keepIn K (.ref f16) = true)
    (a17_0 : PySem.W.nsIn K mainGlobals "_law_put" = some (some (.ref f17)))
    (l17 : K.lookup f17 = some ⟨oc17, od17, .func (PySem.W.fnOf "_law_put" "_law_put" (defArgs s_law_put) (defBody s_law_put) (defScope s_law_put) .none kV17 dc17 pm17 an17 cd17 ct17), sl17⟩)
    (c17 : PySem.W.codeIn K cd17 "_law_put" = true)
    (k17 : PySem.W.keepIn K (.ref f17) = true)
    (a18_0 : PySem.W.nsIn K mainGlobals "_law_strewn" = some (some (.ref f18)))
    (l18 : K.lookup f18 = some ⟨oc18, od18, .func (PySem.W.fnOf "_law_strewn" "_law_strewn" (defArgs s_law_strewn) (defBody s_law_strewn) (defScope s_law_strewn) .none kV18 dc18 pm18 an18 cd18 ct18), sl18⟩)
    (c18 : PySem.W.codeIn K cd18 "_law_strewn" = true)
    (k18 : PySem.W.keepIn K (.ref f18) = true)
    (a19_0 : PySem.W.nsIn K mainGlobals "_law_size" = some (some (.ref f19)))
    (l19 : K.lookup f19 = some ⟨oc19, od19, .func (PySem.W.fnOf "_law_size" "_law_size" (defArgs s_law_size) (defBody s_law_size) (defScope s_law_size) .none kV19 dc19 pm19 an19 cd19 ct19), sl19⟩)
    (c19 : PySem.W.codeIn K cd19 "_law_size" = true)
    (k19 : PySem.W.keepIn K (.ref f19) = true)
    (a20_0 : PySem.W.nsIn K mainGlobals "_law_otherwise_told" = some (some (.ref f20)))
    (l20 : K.lookup f20 = some ⟨oc20, od20, .func (PySem.W.fnOf "_law_otherwise_told" "_law_otherwise_told" (defArgs s_law_otherwise_told) (defBody s_law_otherwise_told) (defScope s_law_otherwise_told) .none kV20 dc20 pm20 an20 cd20 ct20), sl20⟩)
    (c20 : PySem.W.codeIn K cd20 "_law_otherwise_told" = true)
    (k20 : PySem.W.keepIn K (.ref f20) = true)
    (a21_0 : PySem.W.nsIn K mainGlobals "_law_all_parts" = some (some (.ref f21)))
    (l21 : K.lookup f21 = some ⟨oc21, od21, .func (PySem.W.fnOf "_law_all_parts" "_law_all_parts" (defArgs s_law_all_parts) (defBody s_law_all_parts) (defScope s_law_all_parts) .none kV21 dc21 pm21 an21 cd21 ct21), sl21⟩)
    (c21 : PySem.W.codeIn K cd21 "_law_all_parts" = true)
    (k21 : PySem.W.keepIn K (.ref f21) = true)
    (a22_0 : PySem.W.nsIn K mainGlobals "_law_clean" = some (some (.ref f22)))
    (l22 : K.lookup f22 = some ⟨oc22, od22, .func (PySem.W.fnOf "_law_clean" "_law_clean" (defArgs s_law_clean) (defBody s_law_clean) (defScope s_law_clean) .none kV22 dc22 pm22 an22 cd22 ct22), sl22⟩)
    (c22 : PySem.W.codeIn K cd22 "_law_clean" = true)
    (k22 : PySem.W.keepIn K (.ref f22) = true)
    (a23_0 : PySem.W.nsIn K mainGlobals "_law_word_right" = some (some (.ref f23)))
    (l23 : K.lookup f23 = some ⟨oc23, od23, .func (PySem.W.fnOf "_law_word_right" "_law_word_right" (defArgs s_law_word_right) (defBody s_law_word_right) (defScope s_law_word_right) .none kV23 dc23 pm23 an23 cd23 ct23), sl23⟩)
    (c23 : PySem.W.codeIn K cd23 "_law_word_right" = true)
    (k23 : PySem.W.keepIn K (.ref f23) = true)
    (a24_0 : PySem.W.nsIn K mainGlobals "law" = some (some (.ref f24)))
    (l24 : K.lookup f24 = some ⟨oc24, od24, .func (PySem.W.fnOf "law" "law" (defArgs s_law) (defBody s_law) (defScope s_law) .none kV24 dc24 pm24 an24 cd24 ct24), sl24⟩)
    (c24 : PySem.W.codeIn K cd24 "law" = true)
    (k24 : PySem.W.keepIn K (.ref f24) = true)
    (z_int : PySem.W.nsIn K mainGlobals "int" = some none)
    (z_isinstance : PySem.W.nsIn K mainGlobals "isinstance" = some none)
    (z_len : PySem.W.nsIn K mainGlobals "len" = some none)
    (z_list : PySem.W.nsIn K mainGlobals "list" = some none)
    (z_max : PySem.W.nsIn K mainGlobals "max" = some none)
    (z_min : PySem.W.nsIn K mainGlobals "min" = some none)
    (z_range : PySem.W.nsIn K mainGlobals "range" = some none)
    (z_str : PySem.W.nsIn K mainGlobals "str" = some none)
    (z_sum : PySem.W.nsIn K mainGlobals "sum" = some none)
    (z_tuple : PySem.W.nsIn K mainGlobals "tuple" = some none)
    (q_DEEPEST : PySem.W.nsIn K mainGlobals "DEEPEST" = some (some (.int 12 t_DEEPEST)))
    (q_MOST_PARTS : PySem.W.nsIn K mainGlobals "MOST_PARTS" = some (some (.int 60 t_MOST_PARTS)))
    (q_MOST_WITHIN : PySem.W.nsIn K mainGlobals "MOST_WITHIN" = some (some (.int 6 t_MOST_WITHIN)))
    (gt_NO : PySem.W.nsIn K mainGlobals "NO" = some (some (.ref TG_NO)))
    (gT_NO : ∀ H, SqT K H TG_NO [(V.str "no")])
    (gt_YES : PySem.W.nsIn K mainGlobals "YES" = some (some (.ref TG_YES)))
    (gT_YES : ∀ H, SqT K H TG_YES [(V.str "yes")])
    (gu_RULES : PySem.W.nsIn K mainGlobals "RULES" = some (some (.ref RD_RULES)))
    (gk_RULES : ∃ es n, KDict K w RD_RULES es n)
    (gi_RULES : ∀ z : Str, ∃ r, PySem.W.nsIn K RD_RULES z = some r ∧ r.isSome = decide (z ∈ (["pushed", "opened", "joined", "lean"] : List Str)))
    (gv_RULES_0 : PySem.W.nsIn K RD_RULES "pushed" = some (some (.ref f4)))
    (gv_RULES_1 : PySem.W.nsIn K RD_RULES "opened" = some (some (.ref f5)))
    (gv_RULES_2 : PySem.W.nsIn K RD_RULES "joined" = some (some (.ref f6)))
    (gv_RULES_3 : PySem.W.nsIn K RD_RULES "lean" = some (some (.ref f8))) :
    ∃ (c : String → Addr) (fd : FuncData), (∀ (s : Shared) (v : Value), BindsTo s fd ⟨[v], []⟩ [("_law_script", v)]) ∧ ∀ base : Heap, K.In base → base.Ns mainGlobals mg → FnG l.prog w K mg base 22 fa fd ["_law_script"] (spG ⟨K, c⟩ 1 m_law) := by
  have e := hfa.symm.trans (PySem.W.mg_of X G a24_0)
  cases e
  obtain ⟨c, eX0, eX1, eX2, eRD_RULES, ef4, ef5, ef6, ef8⟩ : ∃ c : String → Addr, c "AloneError" = X0 ∧ c "TooMany" = X1 ∧ c "NoWord" = X2 ∧ c "RULES" = RD_RULES ∧ c "pushed" = f4 ∧ c "opened" = f5 ∧ c "joined" = f6 ∧ c "lean" = f8 := ⟨fun s => if s = "AloneError" then X0 else if s = "TooMany" then X1 else if s = "NoWord" then X2 else if s = "RULES" then RD_RULES else if s = "pushed" then f4 else if s = "opened" then f5 else if s = "joined" then f6 else if s = "lean" then f8 else (0 : Addr), by simp, by simp, by simp, by simp, by simp, by simp, by simp, by simp⟩
  subst eX0
  subst eX1
  subst eX2
  subst eRD_RULES
  subst ef4
  subst ef5
  subst ef6
  subst ef8
  have I0 : IsC K (c "AloneError") := ⟨xg0, xh0, xs0, xd0, xc0, xspec, xtake, xm0, xt0⟩
  have I1 : IsC K (c "TooMany") := ⟨xg1, xh1, xs1, xd1, xc1, xspec, xtake, xm1, xt1⟩
  have I2 : IsC K (c "NoWord") := ⟨xg2, xh2, xs2, xd2, xc2, xspec, xtake, xm2, xt2⟩
  have T : Tx K w mg c ⟨fx1, PySem.W.fnOf "__init__" "TooMany.__init__" (defArgs sx_TooMany) (defBody sx_TooMany) (defScope sx_TooMany) .none kVx1 dcx1 pmx1 anx1 cdx1 ctx1, f0, PySem.W.fnOf "inner_parts" "inner_parts" (defArgs s_inner_parts) (defBody s_inner_parts) (defScope s_inner_parts) .none kV0 dc0 pm0 an0 cd0 ct0, f1, PySem.W.fnOf "rebuilt" "rebuilt" (defArgs s_rebuilt) (defBody s_rebuilt) (defScope s_rebuilt) .none kV1 dc1 pm1 an1 cd1 ct1, f2, PySem.W.fnOf "other_word" "other_word" (defArgs s_other_word) (defBody s_other_word) (defScope s_other_word) .none kV2 dc2 pm2 an2 cd2 ct2, f3, PySem.W.fnOf "pushed_by" "pushed_by" (defArgs s_pushed_by) (defBody s_pushed_by) (defScope s_pushed_by) .none kV3 dc3 pm3 an3 cd3 ct3, (c "pushed"), PySem.W.fnOf "pushed" "pushed" (defArgs s_pushed) (defBody s_pushed) (defScope s_pushed) .none kV4 dc4 pm4 an4 cd4 ct4, (c "opened"), PySem.W.fnOf "opened" "opened" (defArgs s_opened) (defBody s_opened) (defScope s_opened) .none kV5 dc5 pm5 an5 cd5 ct5, (c "joined"), PySem.W.fnOf "joined" "joined" (defArgs s_joined) (defBody s_joined) (defScope s_joined) .none kV6 dc6 pm6 an6 cd6 ct6, f7, PySem.W.fnOf "lean_cases" "lean_cases" (defArgs s_lean_cases) (defBody s_lean_cases) (defScope s_lean_cases) .none kV7 dc7 pm7 an7 cd7 ct7, (c "lean"), PySem.W.fnOf "lean" "lean" (defArgs s_lean) (defBody s_lean) (defScope s_lean) .none kV8 dc8 pm8 an8 cd8 ct8, f9, PySem.W.fnOf "size_of" "size_of" (defArgs s_size_of) (defBody s_size_of) (defScope s_size_of) .none kV9 dc9 pm9 an9 cd9 ct9, f10, PySem.W.fnOf "opened_size" "opened_size" (defArgs s_opened_size) (defBody s_opened_size) (defScope s_opened_size) .none kV10 dc10 pm10 an10 cd10 ct10, f11, PySem.W.fnOf "look_at_great" "look_at_great" (defArgs s_look_at_great) (defBody s_look_at_great) (defScope s_look_at_great) .none kV11 dc11 pm11 an11 cd11 ct11, f12, PySem.W.fnOf "otherwise" "otherwise" (defArgs s_otherwise) (defBody s_otherwise) (defScope s_otherwise) .none kV12 dc12 pm12 an12 cd12 ct12, f13, PySem.W.fnOf "_law_pool" "_law_pool" (defArgs s_law_pool) (defBody s_law_pool) (defScope s_law_pool) .none kV13 dc13 pm13 an13 cd13 ct13, f14, PySem.W.fnOf "_law_take" "_law_take" (defArgs s_law_take) (defBody s_law_take) (defScope s_law_take) .none kV14 dc14 pm14 an14 cd14 ct14, f15, PySem.W.fnOf "_law_decision" "_law_decision" (defArgs s_law_decision) (defBody s_law_decision) (defScope s_law_decision) .none kV15 dc15 pm15 an15 cd15 ct15, f16, PySem.W.fnOf "_law_inner" "_law_inner" (defArgs s_law_inner) (defBody s_law_inner) (defScope s_law_inner) .none kV16 dc16 pm16 an16 cd16 ct16, f17, PySem.W.fnOf "_law_put" "_law_put" (defArgs s_law_put) (defBody s_law_put) (defScope s_law_put) .none kV17 dc17 pm17 an17 cd17 ct17, f18, PySem.W.fnOf "_law_strewn" "_law_strewn" (defArgs s_law_strewn) (defBody s_law_strewn) (defScope s_law_strewn) .none kV18 dc18 pm18 an18 cd18 ct18, f19, PySem.W.fnOf "_law_size" "_law_size" (defArgs s_law_size) (defBody s_law_size) (defScope s_law_size) .none kV19 dc19 pm19 an19 cd19 ct19, f20, PySem.W.fnOf "_law_otherwise_told" "_law_otherwise_told" (defArgs s_law_otherwise_told) (defBody s_law_otherwise_told) (defScope s_law_otherwise_told) .none kV20 dc20 pm20 an20 cd20 ct20, f21, PySem.W.fnOf "_law_all_parts" "_law_all_parts" (defArgs s_law_all_parts) (defBody s_law_all_parts) (defScope s_law_all_parts) .none kV21 dc21 pm21 an21 cd21 ct21, f22, PySem.W.fnOf "_law_clean" "_law_clean" (defArgs s_law_clean) (defBody s_law_clean) (defScope s_law_clean) .none kV22 dc22 pm22 an22 cd22 ct22, f23, PySem.W.fnOf "_law_word_right" "_law_word_right" (defArgs s_law_word_right) (defBody s_law_word_right) (defScope s_law_word_right) .none kV23 dc23 pm23 an23 cd23 ct23, fa, PySem.W.fnOf "law" "law" (defArgs s_law) (defBody s_law) (defScope s_law) .none kV24 dc24 pm24 an24 cd24 ct24⟩ := ⟨funx_mk (st := s_inner_parts) l0 c0 k0,
    .all fun us hl => match us, hl with | [_], _ => rfl,
    funx_mk (st := s_rebuilt) l1 c1 k1,
    .all fun us hl => match us, hl with | [_, _], _ => rfl,
    funx_mk (st := s_other_word) l2 c2 k2,
    .all fun us hl => match us, hl with | [_], _ => rfl,
    funx_mk (st := s_pushed_by) l3 c3 k3,
    .all fun us hl => match us, hl with | [_, _], _ => rfl,
    funx_mk (st := s_pushed) l4 c4 k4,
    .all fun us hl => match us, hl with | [_], _ => rfl,
    funx_mk (st := s_opened) l5 c5 k5,
    .all fun us hl => match us, hl with | [_], _ => rfl,
    funx_mk (st := s_joined) l6 c6 k6,
    .all fun us hl => match us, hl with | [_], _ => rfl,
    funx_mk (st := s_lean_cases) l7 c7 k7,
    .all fun us hl => match us, hl with | [_], _ => rfl,
    funx_mk (st := s_lean) l8 c8 k8,
    .all fun us hl => match us, hl with | [_], _ => rfl,
    funx_mk (st := s_size_of) l9 c9 k9,
    .all fun us hl => match us, hl with | [_], _ => rfl,
    funx_mk (st := s_opened_size) l10 c10 k10,
    .all fun us hl => match us, hl with | [_], _ => rfl,
    funx_mk (st := s_look_at_great) l11 c11 k11,
    .all fun us hl => match us, hl with | [_], _ => rfl,
    funx_mk (st := s_otherwise) l12 c12 k12,
    .all fun us hl => match us, hl with | [_, _], _ => rfl,
    funx_mk (st := s_law_pool) l13 c13 k13,
    .all fun us hl => match us, hl with | [_, _], _ => rfl,
    funx_mk (st := s_law_take) l14 c14 k14,
    .all fun us hl => match us, hl with | [_, _], _ => rfl,
    funx_mk (st := s_law_decision) l15 c15 k15,
    .all fun us hl => match us, hl with | [_, _, _, _], _ => rfl,
    funx_mk (st := s_law_inner) l16 c16 k16,
    .all fun us hl => match us, hl with | [_], _ => rfl,
    funx_mk (st := s_law_put) l17 c17 k17,
    .all fun us hl => match us, hl with | [_, _], _ => rfl,
    funx_mk (st := s_law_strewn) l18 c18 k18,
    .all fun us hl => match us, hl with | [_, _, _], _ => rfl,
    funx_mk (st := s_law_size) l19 c19 k19,
    .all fun us hl => match us, hl with | [_], _ => rfl,
    funx_mk (st := s_law_otherwise_told) l20 c20 k20,
    .all fun us hl => match us, hl with | [_, _], _ => rfl,
    funx_mk (st := s_law_all_parts) l21 c21 k21,
    .all fun us hl => match us, hl with | [_], _ => rfl,
    funx_mk (st := s_law_clean) l22 c22 k22,
    .all fun us hl => match us, hl with | [_, _], _ => rfl,
    funx_mk (st := s_law_word_right) l23 c23 k23,
    .all fun us hl => match us, hl with | [_, _], _ => rfl,
    funx_mk (st := s_law) l24 c24 k24,
    .all fun us hl => match us, hl with | [_], _ => rfl,
    ⟨xe2, PySem.W.mg_of X G xa2, xk2, xs2, xt2⟩,
    funx_mk (st := sx_TooMany) xlf1 xcf1 xkf1,
    ⟨⟨⟨_, _, _, _, _, _, _, _, _, _, _, _, _, _, _, xl1, by rfl⟩, xsa1, xs1, xt1, xk1⟩, PySem.W.mg_of X G xa1, xi1, xti1, List.forall_mem_cons.mpr ⟨xnf1_0, fun _ h => nomatch h⟩⟩,
    .all fun us hl => match us, hl with | [_, _], _ => rfl,
    ⟨xq0, xr0, xv0⟩,
    List.forall_mem_cons.mpr ⟨⟨I1, xnf1_0⟩, fun _ h => nomatch h⟩,
    PySem.W.mg_of X G xa0,
    PySem.W.mg_of X G xa1,
    List.forall_mem_cons.mpr ⟨em_ref I1 x0_1, fun _ h => nomatch h⟩,
    PySem.W.mg_of X G a21_0,
    PySem.W.mg_of X G a22_0,
    PySem.W.mg_of X G a15_0,
    PySem.W.mg_of X G a16_0,
    PySem.W.mg_of X G a20_0,
    PySem.W.mg_of X G a13_0,
    PySem.W.mg_of X G a17_0,
    PySem.W.mg_of X G a19_0,
    PySem.W.mg_of X G a18_0,
    PySem.W.mg_of X G a14_0,
    PySem.W.mg_of X G a23_0,
    PySem.W.mg_of X G a0_0,
    PySem.W.mg_of X G a6_0,
    PySem.W.mg_of X G a8_0,
    PySem.W.mg_of X G a7_0,
    PySem.W.mg_of X G a11_0,
    PySem.W.mg_of X G a5_0,
    PySem.W.mg_of X G a10_0,
    PySem.W.mg_of X G a2_0,
    PySem.W.mg_of X G a12_0,
    PySem.W.mg_of X G a3_0,
    PySem.W.mg_of X G a1_0,
    PySem.W.mg_of X G a9_0,
    PySem.W.mg_none_of X G z_int,
    PySem.W.mg_none_of X G z_isinstance,
    PySem.W.mg_none_of X G z_len,
    PySem.W.mg_none_of X G z_list,
    PySem.W.mg_none_of X G z_max,
    PySem.W.mg_none_of X G z_min,
    PySem.W.mg_none_of X G z_range,
    PySem.W.mg_none_of X G z_str,
    PySem.W.mg_none_of X G z_sum,
    PySem.W.mg_none_of X G z_tuple,
    ⟨_, PySem.W.mg_of X G gt_NO, gT_NO⟩,
    ⟨_, PySem.W.mg_of X G gt_YES, gT_YES⟩,
    PySem.W.mg_of X G gu_RULES,
    ⟨gk_RULES, gi_RULES, defT_at (.cons gv_RULES_0 (.cons gv_RULES_1 (.cons gv_RULES_2 (.cons gv_RULES_3 .nil))))⟩,
    rfl,
    rfl,
    rfl,
    rfl,
    ⟨_, PySem.W.mg_of X G q_DEEPEST⟩,
    ⟨_, PySem.W.mg_of X G q_MOST_PARTS⟩,
    ⟨_, PySem.W.mg_of X G q_MOST_WITHIN⟩⟩
  exact ⟨c, PySem.W.fnOf "law" "law" (defArgs s_law) (defBody s_law) (defScope s_law) .none kV24 dc24 pm24 an24 cd24 ct24, fun s v => .of_eq rfl, fun base _ _ => ok_law T⟩
end Lw
end
section
set_option Elab.async false
set_option linter.all false
set_option maxRecDepth 100000
set_option maxHeartbeats 400000
namespace Mb
open PySem PySem.Spec L2 Vi
section
variable {m n s f g k t q S : Nat} {d e y : D} {A : List O} {r : List Bool} {a b w : Bool} {es xs : List D}
/-! what equals itself -/
theorem pys_refl {F : D → Option PyData} (h : ∀ d x, F d = some x → PyData.eqv x x = true) : ∀ {ds : List D} {xs : List PyData}, pys F ds = some xs → PyData.eqvAll xs xs = true
  | [], xs, e => by cases e; rfl
  | d :: ds, xs, e => by
    rw [pys] at e
    obtain ⟨y, h1, hy⟩ := Option.bind_eq_some_iff.mp e
    obtain ⟨ys, h2, rfl⟩ := Option.map_eq_some_iff.mp hy
    simp only [PyData.eqvAll, h d y h1, pys_refl h h2, Bool.and_self]
theorem flat_refl {x : PyData} (h : pyFlat d = some x) : PyData.eqv x x = true := by
  unfold pyFlat at h
  split at h <;> first | (cases h; simp [PyData.eqv]) | cases h
theorem py_refl : ∀ {j : Nat} {d : D} {x : PyData}, py A j d = some x → PyData.eqv x x = true
  | 0, d, x, h => flat_refl h
  | j + 1, d, x, h => by
    unfold py at h
    split at h
    · obtain ⟨ys, h2, rfl⟩ := Option.map_eq_some_iff.mp h
      exact pys_refl (fun _ _ => py_refl) h2
    · obtain ⟨ys, h2, rfl⟩ := Option.map_eq_some_iff.mp h
      exact pys_refl (fun _ _ => py_refl) h2
    · obtain ⟨ys, h2, rfl⟩ := Option.map_eq_some_iff.mp h
      exact pys_refl (fun _ _ => py_refl) h2
    · split at h
      · obtain ⟨ys, h2, rfl⟩ := Option.map_eq_some_iff.mp h
        exact pys_refl (fun _ _ => py_refl) h2
      · cases h
    · exact flat_refl h
theorem eq_self {L : Nat} {ds : List D} (h : Pyd k L (.tup ds)) (hk : k < 64) (A : List O) : dEq (.tup ds) (.tup ds) A = .ok (.bl true) A ∧ dNe (.tup ds) (.tup ds) A = .ok (.bl false) A := by
  obtain ⟨x, h1, h2, h3⟩ := h.eqs
  have e := h1 A 64 (by omega)
  have r := py_refl e
  have hs : SeqAt.shaped x = true := by
    simp [SeqAt.shaped, h2]
    omega
  show dEqD _ _ A = _ ∧ dNeD _ _ A = _
  unfold dEqD dNeD
  rw [e]
  simp [hs, r]
/-! all the parts -/
def apL : Nat → D → List D
  | 0, _ => []
  | n + 1, d => d :: (inner d).flatMap (apL n)
def AllQ (Q : D → Prop) (d : D) : Prop := ∀ n, ∀ x ∈ apL n d, Q x
theorem allQ_node {Q : D → Prop} : AllQ Q d ↔ Q d ∧ ∀ e ∈ inner d, AllQ Q e := by
  constructor
  · intro h
    refine ⟨h 1 d List.mem_cons_self, fun e he n x hx => h (n + 1) x ?_⟩
    exact List.mem_cons_of_mem _ (List.mem_flatMap.mpr ⟨e, he, hx⟩)
  · intro ⟨h1, h2⟩ n
    cases n with
    | zero => intro x hx; cases hx
    | succ n =>
      intro x hx
      rcases List.mem_cons.mp hx with rfl | hx
      · exact h1
      · obtain ⟨e, he, hx⟩ := List.mem_flatMap.mp hx
        exact h2 e he n x hx
theorem apL_len : ∀ {n : Nat} {d : D}, ((apL n d).length : Int) = szI n d
  | 0, d => rfl
  | n + 1, d => by
    have key : ∀ l : List D, ((l.flatMap (apL n)).length : Int) = (l.map (szI n)).sum := fun l => by
      induction l with
      | nil => rfl
      | cons x l ih =>
        have := apL_len (n := n) (d := x)
        rw [List.flatMap_cons, List.length_append, List.map_cons, List.sum_cons]
        omega
    have := key (inner d)
    rw [apL, szI, List.length_cons]
    omega
theorem apL_dec : ∀ {n s : Nat} {d : D}, Dec m n s d → ∀ {f : Nat}, ∀ x ∈ apL f d, Dec m n s x
  | n + 1, s, d, h, f => by
    cases f with
    | zero => intro x hx; cases hx
    | succ f =>
      intro x hx
      rcases List.mem_cons.mp hx with rfl | hx
      · exact h
      · obtain ⟨e, he, hx⟩ := List.mem_flatMap.mp hx
        obtain ⟨t, k2, _, k3⟩ := h.kid
        exact (apL_dec (k2 e he) x hx).mono (by omega) (k3 e he)
/-! pushed -/
theorem psh_st : ∀ {n s : Nat} {d : D} {a : Bool}, Dec m n s d → ∀ {f g : Nat}, n ≤ f → n ≤ g → pshF f a d = pshF g a d
  | n + 1, s, d, a, h, f, g, hf, hg => by
    obtain ⟨f, rfl⟩ : ∃ j, f = j + 1 := ⟨f - 1, by omega⟩
    obtain ⟨g, rfl⟩ : ∃ j, g = j + 1 := ⟨g - 1, by omega⟩
    rcases h with ⟨h, h2 | h2 | ⟨k, hk, h2⟩⟩ | ⟨e, t, h1, h2, h3⟩ | ⟨w, es, t, h1, h2, h3, h4, h5⟩ | ⟨ps, e, t, h1, h2, h3, h4, h5, h6⟩
    · subst h2
      rw [psh_yes, psh_yes]
    · subst h2
      rw [psh_no, psh_no]
    · subst h2
      rw [psh_wish, psh_wish]
    · subst h1
      rw [psh_not, psh_not]
      exact psh_st h2 (by omega) (by omega)
    · subst h1
      have q : es.map (pshF f a) = es.map (pshF g a) := List.map_congr_left fun e he => psh_st (h4 e he) (by omega) (by omega)
      cases w
      · show pshF (f + 1) a (.tup [.str "or", .tup es]) = pshF (g + 1) a (.tup [.str "or", .tup es])
        rw [psh_or, psh_or, q]
      · show pshF (f + 1) a (.tup [.str "and", .tup es]) = pshF (g + 1) a (.tup [.str "and", .tup es])
        rw [psh_and, psh_and, q]
    · subst h1
      rw [psh_cases, psh_cases, psh_st h5 (f := f) (g := g) (by omega) (by omega)]
      have q : (ps.map fun p => D.tup [pshF f false p.1, pshF f a p.2]) = ps.map fun p => D.tup [pshF g false p.1, pshF g a p.2] := List.map_congr_left fun p hp => by
        rw [psh_st (h4 p hp).1 (f := f) (g := g) (by omega) (by omega), psh_st (h4 p hp).2 (f := f) (g := g) (by omega) (by omega)]
      rw [q]
theorem psh_psh : ∀ {n s : Nat} {d : D} {a b : Bool}, Dec m n s d → ∀ {f g : Nat}, n + 1 ≤ f → n ≤ g → pshF f a (pshF g b d) = pshF f (a != b) d
  | n + 1, s, d, a, b, h, f, g, hf, hg => by
    obtain ⟨f, rfl⟩ : ∃ j, f = j + 2 := ⟨f - 2, by omega⟩
    obtain ⟨g, rfl⟩ : ∃ j, g = j + 1 := ⟨g - 1, by omega⟩
    rcases h with ⟨h, h2 | h2 | ⟨k, hk, h2⟩⟩ | ⟨e, t, h1, h2, h3⟩ | ⟨w, es, t, h1, h2, h3, h4, h5⟩ | ⟨ps, e, t, h1, h2, h3, h4, h5, h6⟩
    · subst h2
      rw [psh_yes, psh_yes]
      cases a <;> cases b <;> simp [psh_yes, psh_no]
    · subst h2
      rw [psh_no, psh_no]
      cases a <;> cases b <;> simp [psh_yes, psh_no]
    · subst h2
      rw [psh_wish, psh_wish]
      cases a <;> cases b <;> simp [psh_wish, psh_not]
    · subst h1
      rw [psh_not, psh_not]
      have up : pshF (f + 2) a (pshF g (!b) e) = pshF (f + 2) (a != !b) e := psh_psh h2 (by omega) (by omega)
      rw [up]
      have q : pshF (f + 2) (a != !b) e = pshF (f + 1) (a != !b) e := psh_st h2 (by omega) (by omega)
      rw [q]
      cases a <;> cases b <;> rfl
    · subst h1
      have ih : ∀ e ∈ es, pshF (f + 1) a (pshF g b e) = pshF (f + 1) (a != b) e := fun e he => psh_psh (h4 e he) (by omega) (by omega)
      have q : (es.map (pshF g b)).map (pshF (f + 1) a) = es.map (pshF (f + 1) (a != b)) := by
        rw [List.map_map]
        exact List.map_congr_left ih
      cases w
      · show pshF (f + 2) a (pshF (g + 1) b (.tup [.str "or", .tup es])) = pshF (f + 2) (a != b) (.tup [.str "or", .tup es])
        rw [psh_or, psh_or, ← q]
        cases a <;> cases b <;> simp [psh_or, psh_and]
      · show pshF (f + 2) a (pshF (g + 1) b (.tup [.str "and", .tup es])) = pshF (f + 2) (a != b) (.tup [.str "and", .tup es])
        rw [psh_and, psh_and, ← q]
        cases a <;> cases b <;> simp [psh_or, psh_and]
    · subst h1
      rw [psh_cases]
      have c := psh_cases (n := f + 1) (a := a) (ps := ps.map fun p => (pshF g false p.1, pshF g b p.2)) (e := pshF g b e)
      rw [List.map_map] at c
      have c' : pshF (f + 1 + 1) a (.tup [.str "cases", .tup (ps.map fun p => .tup [pshF g false p.1, pshF g b p.2]), pshF g b e]) = _ := c
      rw [c', psh_cases, psh_psh h5 (by omega) (by omega), List.map_map]
      have q : (ps.map ((fun p : D × D => D.tup [pshF (f + 1) false p.1, pshF (f + 1) a p.2]) ∘ fun p => (pshF g false p.1, pshF g b p.2))) = ps.map fun p => D.tup [pshF (f + 1) false p.1, pshF (f + 1) (a != b) p.2] := List.map_congr_left fun p hp => by
        have i1 := psh_psh (a := false) (b := false) (h4 p hp).1 (f := f + 1) (g := g) (by omega) (by omega)
        have i2 := psh_psh (a := a) (b := b) (h4 p hp).2 (f := f + 1) (g := g) (by omega) (by omega)
        show D.tup [pshF (f + 1) false (pshF g false p.1), pshF (f + 1) a (pshF g b p.2)] = _
        rw [i1, i2]
        rfl
      rw [q]
end
end Mb
end
section
set_option Elab.async false
set_option linter.all false
set_option maxRecDepth 100000
set_option maxHeartbeats 400000
namespace Mb
open PySem PySem.Spec L2 Vi
section
variable {m n s f g k t q S : Nat} {d e y : D} {A : List O} {r : List Bool} {a b w : Bool} {es xs : List D} {Q : D → Prop}
/-! what each word leaves -/
theorem allQ_leaf {x : D} (h : Q x) (hi : inner x = []) : AllQ Q x := allQ_node.mpr ⟨h, by rw [hi]; exact fun _ h => absurd h List.not_mem_nil⟩
theorem allQ_not {x : D} : AllQ Q (.tup [.str "not", x]) ↔ Q (.tup [.str "not", x]) ∧ AllQ Q x := by
  rw [allQ_node, inner_not]; simp
theorem inner_ao : inner (.tup [.str (aoS w), .tup es]) = es := by cases w <;> simp [aoS]
theorem allQ_ao : AllQ Q (.tup [.str (aoS w), .tup es]) ↔ Q (.tup [.str (aoS w), .tup es]) ∧ ∀ e ∈ es, AllQ Q e := by
  rw [allQ_node, inner_ao]
theorem allQ_cases {ps : List (D × D)} : AllQ Q (.tup [.str "cases", .tup (pairsD ps), e]) ↔ Q (.tup [.str "cases", .tup (pairsD ps), e]) ∧ (∀ p ∈ ps, AllQ Q p.1 ∧ AllQ Q p.2) ∧ AllQ Q e := by
  have hie : inner (.tup [.str "cases", .tup (pairsD ps), e]) = flatP ps e := inner_cases
  rw [allQ_node, hie]
  refine and_congr_right fun _ => ⟨fun h => ⟨fun p hp => ⟨h _ ?_, h _ ?_⟩, h _ ?_⟩, fun ⟨h1, h2⟩ x hx => ?_⟩
  · exact List.mem_append_left _ (List.mem_flatMap.mpr ⟨p, hp, by simp⟩)
  · exact List.mem_append_left _ (List.mem_flatMap.mpr ⟨p, hp, by simp⟩)
  · exact List.mem_append_right _ (by simp)
  · rcases List.mem_append.mp hx with hx | hx
    · obtain ⟨p, hp, hx⟩ := List.mem_flatMap.mp hx
      simp only [List.mem_cons, List.mem_nil_iff, or_false] at hx
      rcases hx with rfl | rfl
      · exact (h1 p hp).1
      · exact (h1 p hp).2
    · rw [List.mem_singleton.mp hx]; exact h2
def Qp (x : D) : Prop := ∀ e, x = .tup [.str "not", e] → ∃ i, e = .tup [.str "wish", .int i]
theorem qp_of {x : D} (h : hdS x ≠ "not") : Qp x := fun e he => by subst he; exact absurd rfl h
theorem psh_all : ∀ {n s : Nat} {d : D} {a : Bool}, Dec m n s d → ∀ {f : Nat}, n ≤ f → AllQ Qp (pshF f a d)
  | n + 1, s, d, a, h, f, hf => by
    obtain ⟨f, rfl⟩ : ∃ j, f = j + 1 := ⟨f - 1, by omega⟩
    rcases h with ⟨h, h2 | h2 | ⟨k, hk, h2⟩⟩ | ⟨e, t, h1, h2, h3⟩ | ⟨w, es, t, h1, h2, h3, h4, h5⟩ | ⟨ps, e, t, h1, h2, h3, h4, h5, h6⟩
    · subst h2
      rw [psh_yes]
      cases a
      · exact allQ_leaf (qp_of (by simp [hdS])) inner_yes
      · exact allQ_leaf (qp_of (by simp [hdS])) inner_no
    · subst h2
      rw [psh_no]
      cases a
      · exact allQ_leaf (qp_of (by simp [hdS])) inner_no
      · exact allQ_leaf (qp_of (by simp [hdS])) inner_yes
    · subst h2
      rw [psh_wish]
      cases a
      · exact allQ_leaf (qp_of (by simp [hdS])) inner_wish
      · exact allQ_not.mpr ⟨fun e he => by cases he; exact ⟨_, rfl⟩, allQ_leaf (qp_of (by simp [hdS])) inner_wish⟩
    · subst h1
      rw [psh_not]
      exact psh_all h2 (by omega)
    · subst h1
      have mm : ∀ e ∈ es.map (pshF f a), AllQ Qp e := fun e he => by
        obtain ⟨x, hx, rfl⟩ := List.mem_map.mp he
        exact psh_all (h4 x hx) (by omega)
      cases w
      · show AllQ Qp (pshF (f + 1) a (.tup [.str "or", .tup es]))
        rw [psh_or]
        cases a
        · exact (allQ_ao (w := false)).mpr ⟨qp_of (by simp [hdS, aoS]), mm⟩
        · exact (allQ_ao (w := true)).mpr ⟨qp_of (by simp [hdS, aoS]), mm⟩
      · show AllQ Qp (pshF (f + 1) a (.tup [.str "and", .tup es]))
        rw [psh_and]
        cases a
        · exact (allQ_ao (w := true)).mpr ⟨qp_of (by simp [hdS, aoS]), mm⟩
        · exact (allQ_ao (w := false)).mpr ⟨qp_of (by simp [hdS, aoS]), mm⟩
    · subst h1
      rw [psh_cases]
      have := (allQ_cases (Q := Qp) (ps := ps.map fun p => (pshF f false p.1, pshF f a p.2)) (e := pshF f a e)).mpr ⟨qp_of (by simp [hdS]), fun p hp => by
        obtain ⟨x, hx, rfl⟩ := List.mem_map.mp hp
        exact ⟨psh_all (h4 x hx).1 (by omega), psh_all (h4 x hx).2 (by omega)⟩, psh_all h5 (by omega)⟩
      rw [show pairsD (ps.map fun p => (pshF f false p.1, pshF f a p.2)) = ps.map fun p => .tup [pshF f false p.1, pshF f a p.2] by show List.map (fun p : D × D => D.tup [p.1, p.2]) (List.map _ ps) = _; rw [List.map_map]; rfl] at this
      exact this
def Qo (x : D) : Prop := hdS x ≠ "cases"
theorem lad1_all {t a x : D} (ht : AllQ Qo t) (ha : AllQ Qo a) (hx : AllQ Qo x) : AllQ Qo (lad1 t a x) :=
  (allQ_ao (w := false)).mpr ⟨by simp [Qo, hdS, aoS], fun e he => by
    rcases List.mem_cons.mp he with rfl | he
    · exact (allQ_ao (w := true)).mpr ⟨by simp [Qo, hdS, aoS], fun e he => by
        rcases List.mem_cons.mp he with rfl | he
        · exact ht
        · rcases List.mem_singleton.mp he with rfl
          exact ha⟩
    · rcases List.mem_singleton.mp he with rfl
      exact (allQ_ao (w := true)).mpr ⟨by simp [Qo, hdS, aoS], fun e he => by
        rcases List.mem_cons.mp he with rfl | he
        · exact allQ_not.mpr ⟨by simp [Qo, hdS], ht⟩
        · rcases List.mem_singleton.mp he with rfl
          exact hx⟩⟩
theorem lad_all : ∀ {ps : List (D × D)} {e : D}, (∀ p ∈ ps, AllQ Qo p.1 ∧ AllQ Qo p.2) → AllQ Qo e → AllQ Qo (ladD ps e)
  | [], _, _, he => he
  | p :: ps, _, h, he => lad1_all (h p List.mem_cons_self).1 (h p List.mem_cons_self).2 (lad_all (fun x hx => h x (List.mem_cons_of_mem _ hx)) he)
theorem opn_all : ∀ {n s : Nat} {d : D}, Dec m n s d → ∀ {f : Nat}, n ≤ f → AllQ Qo (opnF f d)
  | n + 1, s, d, h, f, hf => by
    obtain ⟨f, rfl⟩ : ∃ j, f = j + 1 := ⟨f - 1, by omega⟩
    rcases h with ⟨h, h2 | h2 | ⟨k, hk, h2⟩⟩ | ⟨e, t, h1, h2, h3⟩ | ⟨w, es, t, h1, h2, h3, h4, h5⟩ | ⟨ps, e, t, h1, h2, h3, h4, h5, h6⟩
    · subst h2
      rw [opn_yes]
      exact allQ_leaf (by simp [Qo, hdS]) inner_yes
    · subst h2
      rw [opn_no]
      exact allQ_leaf (by simp [Qo, hdS]) inner_no
    · subst h2
      rw [opn_wish]
      exact allQ_leaf (by simp [Qo, hdS]) inner_wish
    · subst h1
      rw [opn_not]
      exact allQ_not.mpr ⟨by simp [Qo, hdS], opn_all h2 (by omega)⟩
    · subst h1
      have q1 : opnF (f + 1) (.tup [.str (if w then "and" else "or"), .tup es]) = _ := opn_ao
      rw [q1]
      refine allQ_ao.mpr ⟨by cases w <;> simp [Qo, hdS, aoS], fun e he => ?_⟩
      obtain ⟨x, hx, rfl⟩ := List.mem_map.mp he
      exact opn_all (h4 x hx) (by omega)
    · subst h1
      have q1 : opnF (f + 1) (.tup [.str "cases", .tup (ps.map fun p => .tup [p.1, p.2]), e]) = _ := opn_cases
      rw [q1]
      refine lad_all (fun p hp => ?_) (opn_all h5 (by omega))
      obtain ⟨x, hx, rfl⟩ := List.mem_map.mp hp
      exact ⟨opn_all (h4 x hx).1 (by omega), opn_all (h4 x hx).2 (by omega)⟩
theorem opn_id : ∀ {n s : Nat} {d : D}, Dec m n s d → AllQ Qo d → ∀ {f : Nat}, n ≤ f → opnF f d = d
  | n + 1, s, d, h, hq, f, hf => by
    obtain ⟨f, rfl⟩ : ∃ j, f = j + 1 := ⟨f - 1, by omega⟩
    rcases h with ⟨h, h2 | h2 | ⟨k, hk, h2⟩⟩ | ⟨e, t, h1, h2, h3⟩ | ⟨w, es, t, h1, h2, h3, h4, h5⟩ | ⟨ps, e, t, h1, h2, h3, h4, h5, h6⟩
    · subst h2
      rfl
    · subst h2
      rfl
    · subst h2
      exact opn_wish
    · subst h1
      rw [opn_not, opn_id h2 (allQ_not.mp hq).2 (by omega)]
    · subst h1
      have q1 : opnF (f + 1) (.tup [.str (if w then "and" else "or"), .tup es]) = _ := opn_ao
      have hq : AllQ Qo (.tup [.str (aoS w), .tup es]) := hq
      have ih : es.map (opnF f) = es := (List.map_congr_left fun e he => opn_id (h4 e he) ((allQ_ao.mp hq).2 e he) (by omega)).trans (List.map_id es)
      rw [q1, ih]
    · subst h1
      exact absurd rfl (allQ_node.mp hq).1
theorem osz_id : ∀ {n s : Nat} {d : D}, Dec m n s d → AllQ Qo d → ∀ {f : Nat}, n ≤ f → osI f d = szI f d ∧ odI f d = dpI f d
  | n + 1, s, d, h, hq, f, hf => by
    obtain ⟨f, rfl⟩ : ∃ j, f = j + 1 := ⟨f - 1, by omega⟩
    rcases h with ⟨h, h2 | h2 | ⟨k, hk, h2⟩⟩ | ⟨e, t, h1, h2, h3⟩ | ⟨w, es, t, h1, h2, h3, h4, h5⟩ | ⟨ps, e, t, h1, h2, h3, h4, h5, h6⟩
    · subst h2
      exact ⟨by simp [osI, szI], by simp [odI, dpI]⟩
    · subst h2
      exact ⟨by simp [osI, szI], by simp [odI, dpI]⟩
    · subst h2
      exact ⟨by simp [osI, szI], by simp [odI, dpI]⟩
    · subst h1
      obtain ⟨i1, i2⟩ := osz_id h2 (allQ_not.mp hq).2 (f := f) (by omega)
      rw [os_not, od_not, i1, i2]
      exact ⟨by simp [szI], by simp [dpI, maxL]⟩
    · subst h1
      have hq : AllQ Qo (.tup [.str (aoS w), .tup es]) := hq
      have i1 : es.map (osI f) = es.map (szI f) := List.map_congr_left fun e he => (osz_id (h4 e he) ((allQ_ao.mp hq).2 e he) (by omega)).1
      have i2 : es.map (odI f) = es.map (dpI f) := List.map_congr_left fun e he => (osz_id (h4 e he) ((allQ_ao.mp hq).2 e he) (by omega)).2
      have q1 : osI (f + 1) (.tup [.str (if w then "and" else "or"), .tup es]) = _ := os_ao
      have q2 : odI (f + 1) (.tup [.str (if w then "and" else "or"), .tup es]) = _ := od_ao
      have hie : inner (.tup [.str (if w then "and" else "or"), .tup es]) = es := inner_ao
      rw [q1, q2, i1, i2, szI, dpI, hie]
      exact ⟨rfl, rfl⟩
    · subst h1
      exact absurd rfl (allQ_node.mp hq).1
/-! lean -/
def nyn (e : D) : Prop := isYn true e = false ∧ isYn false e = false
def Ql (x : D) : Prop := (∀ e, x = .tup [.str "not", e] → nyn e) ∧ (∀ (w : Bool) es, x = .tup [.str (aoS w), .tup es] → ∀ e ∈ es, nyn e) ∧ ∀ ps e, x = .tup [.str "cases", .tup (pairsD ps), e] → ∀ p ∈ ps, nyn p.1
theorem ql_leaf {x : D} (h : inner x = []) : Ql x := by
  refine ⟨fun e he => ?_, fun w es he => ?_, fun ps e he => ?_⟩
  · subst he
    rw [inner_not] at h
    cases h
  · subst he
    rw [inner_ao] at h
    rw [h]
    exact fun _ h => absurd h List.not_mem_nil
  · subst he
    have hie : inner (.tup [.str "cases", .tup (pairsD ps), e]) = flatP ps e := inner_cases
    rw [hie] at h
    exact absurd h (by simp)
theorem ao_not {x : D} (he : (.tup [.str "not", x] : D) = .tup [.str (aoS w), .tup es]) : False := by
  have := congrArg hdS he
  cases w <;> simp [hdS, aoS] at this
theorem ao_len {x z : D} {v : Str} (he : (.tup [.str v, x] : D) = .tup [.str "cases", .tup xs, z]) : False := by
  injection he with h1
  injection h1 with h2 h3
  injection h3 with h4 h5
  cases h5
theorem ql_not {x : D} (h : nyn x) : Ql (.tup [.str "not", x]) := by
  refine ⟨fun e he => ?_, fun w es he => (ao_not he).elim, fun ps e he => (ao_len he).elim⟩
  cases he
  exact h
theorem ql_ao (h : ∀ e ∈ es, nyn e) : Ql (.tup [.str (aoS w), .tup es]) := by
  refine ⟨fun e he => (ao_not he.symm).elim, fun v fs he => ?_, fun ps e he => (ao_len he).elim⟩
  have q := congrArg inner he
  rw [inner_ao, inner_ao] at q
  rw [← q]
  exact h
theorem pairsD_inj : ∀ {ps qs : List (D × D)}, pairsD ps = pairsD qs → ps = qs
  | [], [], _ => rfl
  | [], _ :: _, h => by cases h
  | _ :: _, [], h => by cases h
  | (a, b) :: ps, (c, e) :: qs, h => by
    have h' : D.tup [a, b] :: pairsD ps = D.tup [c, e] :: pairsD qs := h
    injection h' with h1 h2
    injection h1 with h3
    injection h3 with h4 h5
    injection h5 with h6
    rw [h4, h6, pairsD_inj h2]
theorem ql_cases {ps : List (D × D)} (h : ∀ p ∈ ps, nyn p.1) : Ql (.tup [.str "cases", .tup (pairsD ps), e]) := by
  refine ⟨fun e he => (ao_len he.symm).elim, fun v fs he => (ao_len he.symm).elim, fun qs e2 he => ?_⟩
  injection he with h1
  injection h1 with _ h2
  injection h2 with h3 h4
  injection h3 with h5
  rw [← pairsD_inj h5]
  exact h
theorem lnR_nyn : ∀ {ps : List (D × D)} {e : D}, ∀ p ∈ (lnR ps e).1, nyn p.1
  | [], e, p, h => by simp [lnR] at h
  | q :: ps, e, p, h => by
    rw [lnR] at h
    split at h
    · simp at h
    · rename_i h1
      split at h
      · exact lnR_nyn p h
      · rename_i h2
        rcases List.mem_cons.mp h with rfl | h
        · exact ⟨by simpa using h1, by simpa using h2⟩
        · exact lnR_nyn p h
theorem lnR_id : ∀ {ps : List (D × D)} {e : D}, (∀ p ∈ ps, nyn p.1) → lnR ps e = (ps, e)
  | [], e, h => rfl
  | q :: ps, e, h => by
    obtain ⟨h1, h2⟩ := h q List.mem_cons_self
    have ih := lnR_id (e := e) fun p hp => h p (List.mem_cons_of_mem _ hp)
    rw [lnR, if_neg (by rw [h1]; simp), if_neg (by rw [h2]; simp), ih]
theorem yn_leaf : AllQ Ql (.tup [.str (ynS b)]) := by
  cases b
  · exact allQ_leaf (ql_leaf inner_no) inner_no
  · exact allQ_leaf (ql_leaf inner_yes) inner_yes
theorem ln_all : ∀ {n s : Nat} {d : D}, Dec m n s d → ∀ {f : Nat}, n ≤ f → AllQ Ql (leanF f d)
  | n + 1, s, d, h, f, hf => by
    obtain ⟨f, rfl⟩ : ∃ j, f = j + 1 := ⟨f - 1, by omega⟩
    rcases h with ⟨h, h2 | h2 | ⟨k, hk, h2⟩⟩ | ⟨e, t, h1, h2, h3⟩ | ⟨w, es, t, h1, h2, h3, h4, h5⟩ | ⟨ps, e, t, h1, h2, h3, h4, h5, h6⟩
    · subst h2
      exact allQ_leaf (ql_leaf inner_yes) inner_yes
    · subst h2
      exact allQ_leaf (ql_leaf inner_no) inner_no
    · subst h2
      rw [ln_wish]
      exact allQ_leaf (ql_leaf inner_wish) inner_wish
    · subst h1
      rw [ln_not]
      have ih := ln_all h2 (f := f) (by omega)
      unfold lnN
      split
      · exact yn_leaf
      · rename_i c1
        split
        · exact yn_leaf
        · rename_i c2
          exact allQ_not.mpr ⟨ql_not ⟨by simpa using c1, by simpa using c2⟩, ih⟩
    · subst h1
      rw [ln_ao]
      have ih : ∀ x ∈ es.map (leanF f), AllQ Ql x := fun x hx => by
        obtain ⟨e, he, rfl⟩ := List.mem_map.mp hx
        exact ln_all (h4 e he) (by omega)
      generalize es.map (leanF f) = X at *
      unfold lnJ
      split
      · exact yn_leaf
      · rename_i c1
        split
        · exact yn_leaf
        · refine (allQ_ao (w := w)).mpr ⟨ql_ao fun e he => ?_, fun e he => ih e (List.mem_filter.mp he).1⟩
          have q1 : isYn w e = false := by simpa using (List.mem_filter.mp he).2
          have q2 : isYn (!w) e = false := by
            have := mt (List.any_eq_true.mpr) c1
            cases hh : isYn (!w) e with
            | false => rfl
            | true => exact absurd ⟨e, he, hh⟩ this
          cases w
          · exact ⟨q2, q1⟩
          · exact ⟨q1, q2⟩
    · subst h1
      rw [ln_cases]
      have ihe := ln_all h5 (f := f) (by omega)
      have ih : ∀ p ∈ (ps.map fun p => (leanF f p.1, leanF f p.2)), AllQ Ql p.1 ∧ AllQ Ql p.2 := fun p hp => by
        obtain ⟨x, hx, rfl⟩ := List.mem_map.mp hp
        exact ⟨ln_all (h4 x hx).1 (by omega), ln_all (h4 x hx).2 (by omega)⟩
      generalize (ps.map fun p => (leanF f p.1, leanF f p.2)) = Ps at *
      generalize leanF f e = E at *
      have hl : AllQ Ql (lnR Ps E).2 := lnR_last (P := AllQ Ql) ihe fun p hp => (ih p hp).2
      unfold lnC
      split
      · exact hl
      · exact allQ_cases.mpr ⟨ql_cases fun p hp => lnR_nyn p hp, fun p hp => ih p (lnR_mem hp), hl⟩
theorem ln_id : ∀ {n s : Nat} {d : D}, Dec m n s d → AllQ Ql d → ∀ {f : Nat}, n ≤ f → leanF f d = d
  | n + 1, s, d, h, hq, f, hf => by
    obtain ⟨f, rfl⟩ : ∃ j, f = j + 1 := ⟨f - 1, by omega⟩
    rcases h with ⟨h, h2 | h2 | ⟨k, hk, h2⟩⟩ | ⟨e, t, h1, h2, h3⟩ | ⟨w, es, t, h1, h2, h3, h4, h5⟩ | ⟨ps, e, t, h1, h2, h3, h4, h5, h6⟩
    · subst h2
      rfl
    · subst h2
      rfl
    · subst h2
      exact ln_wish
    · subst h1
      obtain ⟨q1, q2⟩ := allQ_not.mp hq
      obtain ⟨c1, c2⟩ := q1.1 e rfl
      rw [ln_not, ln_id h2 q2 (by omega)]
      unfold lnN
      rw [if_neg (by rw [c1]; simp), if_neg (by rw [c2]; simp)]
    · subst h1
      have hq : AllQ Ql (.tup [.str (aoS w), .tup es]) := hq
      obtain ⟨q1, q2⟩ := allQ_ao.mp hq
      have nn := q1.2.1 w es rfl
      have ih : es.map (leanF f) = es := (List.map_congr_left fun e he => ln_id (h4 e he) (q2 e he) (by omega)).trans (List.map_id es)
      have nw : ∀ v, ∀ e ∈ es, isYn v e = false := fun v e he => by
        obtain ⟨c1, c2⟩ := nn e he
        cases v
        · exact c2
        · exact c1
      have fl : (es.filter fun e => !isYn w e) = es := List.filter_eq_self.mpr fun e he => by rw [nw w e he]; rfl
      have an : es.any (isYn (!w)) = false := by
        rw [List.any_eq_false]
        intro e he
        rw [nw (!w) e he]
        simp
      rw [ln_ao, ih]
      unfold lnJ
      rw [fl, an, if_neg (by simp), if_neg (by simpa using h2)]
    · subst h1
      have hq : AllQ Ql (.tup [.str "cases", .tup (pairsD ps), e]) := hq
      obtain ⟨q1, q2, q3⟩ := allQ_cases.mp hq
      have nn := q1.2.2 ps e rfl
      have ih : (ps.map fun p => (leanF f p.1, leanF f p.2)) = ps := (List.map_congr_left fun p hp => by rw [ln_id (h4 p hp).1 (q2 p hp).1 (by omega), ln_id (h4 p hp).2 (q2 p hp).2 (by omega)]; rfl).trans (List.map_id ps)
      rw [ln_cases, ih, ln_id h5 q3 (by omega)]
      unfold lnC
      rw [lnR_id nn, if_neg (by simpa using h2)]
end
end Mb
end
section
set_option Elab.async false
set_option linter.all false
set_option maxRecDepth 100000
set_option maxHeartbeats 400000
namespace Mb
open PySem PySem.Spec L2 Vi
section
variable {m n s f g k t q S : Nat} {d e y : D} {A : List O} {r : List Bool} {a b w : Bool} {es xs : List D} {Q : D → Prop}
/-! joined -/
abbrev wideN (w : Bool) (es : List D) : Nat := (jnW (aoS w) es).length
def Qj (x : D) : Prop := ∀ (w : Bool) es, x = .tup [.str (aoS w), .tup es] → 1 < es.length ∧ (wideN w es = es.length ∨ 6 < wideN w es)
theorem qj_ne {x : D} (h : ∀ w, hdS x ≠ aoS w) : Qj x := fun w es he => by
  subst he
  exact absurd rfl (h w)
theorem jn_one (hm : m ≤ 10) (hn : n ≤ 16) (h : Dec m n S y) : 1 ≤ (jnP (aoS w) y).length :=
  List.length_pos_iff.mpr (jnP_ok hm hn h).1
theorem wide_ge (hm : m ≤ 10) (hn : n ≤ 16) : ∀ {es : List D}, (∀ e ∈ es, Dec m n S e) → es.length ≤ wideN w es
  | [], _ => Nat.zero_le _
  | x :: xs, h => by
    have h1 := jn_one (w := w) hm hn (h x List.mem_cons_self)
    have h2 := wide_ge hm hn (es := xs) fun y hy => h y (List.mem_cons_of_mem _ hy)
    show _ ≤ (jnW (aoS w) (x :: xs)).length
    rw [jnW_c, List.length_append, List.length_cons]
    have h2 : xs.length ≤ (jnW (aoS w) xs).length := h2
    omega
theorem wide_gt (hm : m ≤ 10) (hn : n ≤ 16) : ∀ {es : List D}, (∀ e ∈ es, Dec m n S e) → ∀ z ∈ es, 1 < (jnP (aoS w) z).length → es.length < wideN w es
  | x :: xs, h, z, hz, hl => by
    have h1 := jn_one (w := w) hm hn (h x List.mem_cons_self)
    have h2 : xs.length ≤ (jnW (aoS w) xs).length := wide_ge (w := w) hm hn (es := xs) fun y hy => h y (List.mem_cons_of_mem _ hy)
    show _ < (jnW (aoS w) (x :: xs)).length
    rw [jnW_c, List.length_append, List.length_cons]
    rcases List.mem_cons.mp hz with rfl | hz
    · omega
    · have h3 : xs.length < (jnW (aoS w) xs).length := wide_gt hm hn (es := xs) (fun y hy => h y (List.mem_cons_of_mem _ hy)) z hz hl
      omega
theorem jnW_self (h : ∀ e ∈ es, jnP (aoS w) e = [e]) : jnW (aoS w) es = es := by
  induction es with
  | nil => rfl
  | cons x xs ih =>
    rw [jnW_c, h x List.mem_cons_self, ih fun e he => h e (List.mem_cons_of_mem _ he)]
    rfl
theorem jnW_app {l1 l2 : List D} : jnW (aoS w) (l1 ++ l2) = jnW (aoS w) l1 ++ jnW (aoS w) l2 := List.flatMap_append
theorem wide_sub : ∀ {X : List D} {x : D}, x ∈ X → wideN w (jnP (aoS w) x) ≤ wideN w (jnW (aoS w) X)
  | y :: ys, x, h => by
    show (jnW (aoS w) (jnP (aoS w) x)).length ≤ (jnW (aoS w) (jnW (aoS w) (y :: ys))).length
    rw [jnW_c, jnW_app, List.length_append]
    rcases List.mem_cons.mp h with rfl | h
    · omega
    · have : (jnW (aoS w) (jnP (aoS w) x)).length ≤ (jnW (aoS w) (jnW (aoS w) ys)).length := wide_sub h
      omega
/-- a part of the word's own kind has more than one part itself -/
theorem qj_gt (hm : m ≤ 10) (hn : n ≤ 16) {z : D} (hd : Dec m n S z) (hz : Qj z) (hh : hdS z = aoS w) : 1 < (jnP (aoS w) z).length := by
  obtain ⟨_, _, _, _, p5⟩ := jnP_ok (w := w) hm hn hd
  obtain ⟨q1, q2⟩ := p5 hh
  exact (hz w _ q1).1
theorem wide_eq (hm : m ≤ 10) (hn : n ≤ 16) (hd : ∀ e ∈ es, Dec m n S e) (hq : ∀ e ∈ es, Qj e) (hw : wideN w es = es.length) : ∀ e ∈ es, jnP (aoS w) e = [e] := fun e he => by
  obtain ⟨_, _, _, p4, _⟩ := jnP_ok (w := w) hm hn (hd e he)
  by_cases hh : hdS e = aoS w
  · have := wide_gt (w := w) hm hn hd e he (qj_gt hm hn (hd e he) (hq e he) hh)
    omega
  · exact p4 hh
theorem allQ_self {x : D} (h : AllQ Q x) : Q x := (allQ_node.mp h).1
theorem jnJ_all (hm : m ≤ 10) (hn : n ≤ 15) {X : List D} (h0 : X ≠ []) (h6 : X.length ≤ 6) (hd : ∀ x ∈ X, Dec m n S x) (hq : ∀ x ∈ X, AllQ Qj x) : AllQ Qj (jnJ (aoS w) X) := by
  have mem : ∀ e ∈ jnW (aoS w) X, AllQ Qj e := fun e he => by
    obtain ⟨x, hx, he⟩ := List.mem_flatMap.mp he
    obtain ⟨_, _, _, p4, p5⟩ := jnP_ok (w := w) hm (by omega) (hd x hx)
    by_cases hh : hdS x = aoS w
    · have := hq x hx
      obtain ⟨q1, _⟩ := p5 hh
      rw [q1] at this
      exact (allQ_ao.mp this).2 e he
    · rw [p4 hh] at he
      rw [List.mem_singleton.mp he]
      exact hq x hx
  have W6 : (jnW (aoS w) X).length ≤ 6 → wideN w (jnW (aoS w) X) = (jnW (aoS w) X).length ∨ 6 < wideN w (jnW (aoS w) X) := fun _ => by
    by_cases c : ∀ z ∈ jnW (aoS w) X, hdS z ≠ aoS w
    · refine .inl ?_
      show (jnW (aoS w) (jnW (aoS w) X)).length = _
      rw [jnW_self fun z hz => (jnP_ok (w := w) hm (by omega) (jnW_mem hm (by omega) hd z hz)).2.2.2.1 (c z hz)]
    · refine .inr ?_
      have ⟨z, hz, hh⟩ : ∃ z ∈ jnW (aoS w) X, hdS z = aoS w := by
        apply Classical.byContradiction
        intro hn
        exact c fun z hz hh => hn ⟨z, hz, hh⟩
      obtain ⟨x, hx, hzx⟩ := List.mem_flatMap.mp hz
      obtain ⟨_, p2, _, p4, p5⟩ := jnP_ok (w := w) hm (by omega) (hd x hx)
      by_cases hxx : hdS x = aoS w
      · obtain ⟨q1, _⟩ := p5 hxx
        have aq := hq x hx
        have sub := wide_sub (w := w) hx
        generalize jnP (aoS w) x = P at *
        rw [q1] at aq
        obtain ⟨q2, q3⟩ := allQ_ao.mp aq
        obtain ⟨_, q4⟩ := q2 w P rfl
        rcases q4 with q4 | q4
        · have := wide_gt (w := w) hm (by omega) p2 z hzx (qj_gt hm (by omega) (p2 z hzx) (allQ_self (q3 z hzx)) hh)
          omega
        · omega
      · rw [p4 hxx] at hzx
        rw [List.mem_singleton.mp hzx] at hh
        exact absurd hh hxx
  have key : ∀ P : List D, P ≠ [] → (∀ e ∈ P, AllQ Qj e) → (1 < P.length → wideN w P = P.length ∨ 6 < wideN w P) → AllQ Qj (match P with | [x] => x | P => .tup [.str (aoS w), .tup P]) := fun P p0 p1 p2 => by
    match P, p0, p1, p2 with
    | [], p0, _, _ => exact absurd rfl p0
    | [x], _, p1, _ => exact p1 x List.mem_cons_self
    | x :: y :: r, _, p1, p2 =>
      refine allQ_ao.mpr ⟨fun v es he => ?_, p1⟩
      have hw : aoS w = aoS v := congrArg hdS he
      have hv : w = v := by cases w <;> cases v <;> simp [aoS] at hw ⊢
      subst hv
      have q := congrArg inner he
      rw [inner_ao, inner_ao] at q
      rw [← q]
      exact ⟨by simp, p2 (by simp)⟩
  unfold jnJ
  refine key (jnL (aoS w) X) ?_ ?_ ?_
  · unfold jnL
    split
    · exact jnW_ne hm (by omega) h0 hd
    · exact h0
  · unfold jnL
    split
    · exact mem
    · exact hq
  · unfold jnL
    split
    · rename_i c
      exact fun _ => W6 c
    · rename_i c
      exact fun _ => .inr (by show 6 < (jnW (aoS w) X).length; omega)
theorem jn_all (hm : m ≤ 10) : ∀ {n s : Nat} {d : D}, Dec m n s d → n ≤ 15 → ∀ {f : Nat}, n ≤ f → AllQ Qj (joinF f d)
  | n + 1, s, d, h, hn, f, hf => by
    obtain ⟨f, rfl⟩ : ∃ j, f = j + 1 := ⟨f - 1, by omega⟩
    rcases h with ⟨h, h2 | h2 | ⟨k, hk, h2⟩⟩ | ⟨e, t, h1, h2, h3⟩ | ⟨w, es, t, h1, h2, h3, h4, h5⟩ | ⟨ps, e, t, h1, h2, h3, h4, h5, h6⟩
    · subst h2
      rw [jn_yes]
      exact allQ_leaf (qj_ne fun w => by cases w <;> simp [hdS, aoS]) inner_yes
    · subst h2
      rw [jn_no]
      exact allQ_leaf (qj_ne fun w => by cases w <;> simp [hdS, aoS]) inner_no
    · subst h2
      rw [jn_wish]
      exact allQ_leaf (qj_ne fun w => by cases w <;> simp [hdS, aoS]) inner_wish
    · subst h1
      rw [jn_not]
      exact allQ_not.mpr ⟨qj_ne fun w => by cases w <;> simp [hdS, aoS], jn_all hm h2 (by omega) (by omega)⟩
    · subst h1
      have q1 : joinF (f + 1) (.tup [.str (if w then "and" else "or"), .tup es]) = _ := jn_ao
      rw [q1]
      obtain ⟨S, hS⟩ := common (l := es.map (joinF f)) (m := m) (n := n) fun x hx => by
        obtain ⟨e, he, rfl⟩ := List.mem_map.mp hx
        exact (join_ok hm (h4 e he) (by omega) (f := f) (by omega)).1
      exact jnJ_all hm (by omega) (by simpa using h2) (by rw [List.length_map]; exact h3) hS fun x hx => by
        obtain ⟨e, he, rfl⟩ := List.mem_map.mp hx
        exact jn_all hm (h4 e he) (by omega) (by omega)
    · subst h1
      have q1 : joinF (f + 1) (.tup [.str "cases", .tup (ps.map fun p => .tup [p.1, p.2]), e]) = _ := jn_cases
      rw [q1]
      have := (allQ_cases (Q := Qj) (ps := ps.map fun p => (joinF f p.1, joinF f p.2)) (e := joinF f e)).mpr ⟨qj_ne fun w => by cases w <;> simp [hdS, aoS], fun p hp => by
        obtain ⟨x, hx, rfl⟩ := List.mem_map.mp hp
        exact ⟨jn_all hm (h4 x hx).1 (by omega) (by omega), jn_all hm (h4 x hx).2 (by omega) (by omega)⟩, jn_all hm h5 (by omega) (by omega)⟩
      rw [show pairsD (ps.map fun p => (joinF f p.1, joinF f p.2)) = ps.map fun p => .tup [joinF f p.1, joinF f p.2] by show List.map (fun p : D × D => D.tup [p.1, p.2]) (List.map _ ps) = _; rw [List.map_map]; rfl] at this
      exact this
theorem jn_id (hm : m ≤ 10) : ∀ {n s : Nat} {d : D}, Dec m n s d → n ≤ 15 → AllQ Qj d → ∀ {f : Nat}, n ≤ f → joinF f d = d
  | n + 1, s, d, h, hn, hq, f, hf => by
    obtain ⟨f, rfl⟩ : ∃ j, f = j + 1 := ⟨f - 1, by omega⟩
    rcases h with ⟨h, h2 | h2 | ⟨k, hk, h2⟩⟩ | ⟨e, t, h1, h2, h3⟩ | ⟨w, es, t, h1, h2, h3, h4, h5⟩ | ⟨ps, e, t, h1, h2, h3, h4, h5, h6⟩
    · subst h2
      rfl
    · subst h2
      rfl
    · subst h2
      exact jn_wish
    · subst h1
      rw [jn_not, jn_id hm h2 (by omega) (allQ_not.mp hq).2 (by omega)]
    · subst h1
      have hq : AllQ Qj (.tup [.str (aoS w), .tup es]) := hq
      obtain ⟨q1, q2⟩ := allQ_ao.mp hq
      have q3 : joinF (f + 1) (.tup [.str (if w then "and" else "or"), .tup es]) = _ := jn_ao
      have ih : es.map (joinF f) = es := (List.map_congr_left fun e he => jn_id hm (h4 e he) (by omega) (q2 e he) (by omega)).trans (List.map_id es)
      obtain ⟨q4, q5⟩ := q1 w es rfl
      have hl : jnL (aoS w) es = es := by
        unfold jnL
        rcases q5 with q5 | q5
        · rw [jnW_self (wide_eq hm (by omega) h4 (fun e he => allQ_self (q2 e he)) q5)]
          split <;> rfl
        · rw [if_neg (by show ¬ wideN w es ≤ 6; omega)]
      rw [q3, ih]
      unfold jnJ
      rw [hl]
      match es, q4 with
      | x :: y :: r, _ => rfl
    · subst h1
      have q1 : joinF (f + 1) (.tup [.str "cases", .tup (ps.map fun p => .tup [p.1, p.2]), e]) = _ := jn_cases
      have hq : AllQ Qj (.tup [.str "cases", .tup (pairsD ps), e]) := hq
      obtain ⟨_, q2, q3⟩ := allQ_cases.mp hq
      have ih : (ps.map fun p => D.tup [joinF f p.1, joinF f p.2]) = ps.map fun p => D.tup [p.1, p.2] := List.map_congr_left fun p hp => by
        rw [jn_id hm (h4 p hp).1 (by omega) (q2 p hp).1 (by omega), jn_id hm (h4 p hp).2 (by omega) (q2 p hp).2 (by omega)]
      rw [q1, ih, jn_id hm h5 (by omega) q3 (by omega)]
end
end Mb
end
section
set_option Elab.async false
set_option linter.all false
set_option maxRecDepth 100000
set_option maxHeartbeats 400000
namespace Lw
open PySem PySem.Spec L2 Vi Mb
section
variable {m n s f g k t q S : Nat} {d e y : D} {A : List Vi.O} {r : List Bool} {a b w : Bool} {es xs : List D}
theorem all_parts_s (f : Nat) : m_law_all_parts (f + 1) = runB 3 (b_law_all_parts (m_law_all_parts f)) := rfl
theorem parts_loop {R : List D → List Vi.O → Vi.R D} : ∀ (es acc : List D) (x : Option D), (∀ e ∈ es, R [e] A = .ok (.lst (apL f e)) A) → (acc ++ es.flatMap (apL f)).length ≤ 10000 →
    ∃ x', forD (fun _ => True) (tgN 2) (b_law_all_parts_1 R) es [some d, some (.lst acc), x] A = .ok (.nx [some d, some (.lst (acc ++ es.flatMap (apL f))), x']) A
  | [], acc, x, _, _ => ⟨x, by simp [forD]⟩
  | e :: es, acc, x, h, hl => by
    rw [List.flatMap_cons, ← List.append_assoc] at hl
    obtain ⟨x', e'⟩ := parts_loop (R := R) es (acc ++ apL f e) (some e) (fun z hz => h z (List.mem_cons_of_mem _ hz)) hl
    refine ⟨x', ?_⟩
    have e1 := h e List.mem_cons_self
    have e2 : dAdd true (.lst acc) (.lst (apL f e)) A = .ok (.lst (acc ++ apL f e)) A := by
      rw [dAdd_ll, newL_t (by rw [List.length_append] at hl; omega)]
    rw [List.flatMap_cons, ← List.append_assoc, forD, if_pos trivial]
    generalize acc ++ apL f e ++ es.flatMap (apL f) = Z at *
    generalize acc ++ apL f e = Y at *
    have step : b_law_all_parts_1 R [some d, some (.lst acc), some e] A = .ok (.nx [some d, some (.lst Y), some e]) A := by
      generalize apL f e = X at *
      simp [b_law_all_parts_1, e1, e2, -dAdd_ll]
    simp [step, e']
theorem all_parts_ok : ∀ {n s : Nat} {d : D}, Dec m n s d → ∀ {f : Nat}, n ≤ f → szI f d ≤ 1000 → ∀ A, m_law_all_parts f [d] A = .ok (.lst (apL f d)) A
  | n + 1, s, d, h, f, hf, hz, A => by
    obtain ⟨f, rfl⟩ : ∃ g, f = g + 1 := ⟨f - 1, by omega⟩
    obtain ⟨t, k2, _, _⟩ := h.kid
    have e1 := li_ok h A
    have zl := apL_len (n := f + 1) (d := d)
    have hz' : ∀ e ∈ inner d, szI f e ≤ 1000 := fun e he => by
      have q : ∀ l : List D, e ∈ l → szI f e ≤ (l.map (szI f)).sum := fun l => by
        induction l with
        | nil => intro h; cases h
        | cons x l ih =>
          intro h
          have nn : 0 ≤ (l.map (szI f)).sum := sumI_nn fun y hy => by
            obtain ⟨z, _, rfl⟩ := List.mem_map.mp hy
            exact szI_nn
          have n2 : 0 ≤ szI f x := szI_nn
          rw [List.map_cons, List.sum_cons]
          rcases List.mem_cons.mp h with rfl | h
          · omega
          · have := ih h; omega
      have := q _ he
      rw [szI] at hz
      omega
    obtain ⟨x', e'⟩ := parts_loop (A := A) (d := d) (R := m_law_all_parts f) (f := f) (inner d) [d] none (fun e he => all_parts_ok (k2 e he) (by omega) (hz' e he) A) (by
      have : ([d] ++ (inner d).flatMap (apL f)) = apL (f + 1) d := rfl
      rw [this]; omega)
    have q : [d] ++ (inner d).flatMap (apL f) = apL (f + 1) d := rfl
    rw [q] at e'
    rw [all_parts_s]
    generalize apL (f + 1) d = X at *
    generalize inner d = I at *
    simp [b_law_all_parts, e1, e']
/-! what is clean -/
theorem n1 : (Str.ofString "opened" = Str.ofString "pushed") = False := eq_false (by decide +kernel)
theorem n2 : (Str.ofString "joined" = Str.ofString "pushed") = False := eq_false (by decide +kernel)
theorem n3 : (Str.ofString "joined" = Str.ofString "opened") = False := eq_false (by decide +kernel)
theorem n4 : (Str.ofString "lean" = Str.ofString "pushed") = False := eq_false (by decide +kernel)
theorem n5 : (Str.ofString "lean" = Str.ofString "opened") = False := eq_false (by decide +kernel)
theorem n6 : (Str.ofString "lean" = Str.ofString "joined") = False := eq_false (by decide +kernel)
theorem clean_p (h : Dec m n s y) (hq : Qp y) : m_law_clean [.str (Str.ofString "pushed"), y] A = .ok (.bl true) A := by
  have e1 := li_ok h A
  have i0 := hd_ixM h A
  by_cases c : hdS y = Str.ofString "not"
  · rcases form_cases h.form with rfl | rfl | ⟨k, h0, _, rfl⟩ | ⟨e, rfl⟩ | ⟨w, es, rfl, _⟩ | ⟨ps, e, rfl, _⟩
    · simp [hdS] at c
    · simp [hdS] at c
    · simp [hdS] at c
    · obtain ⟨i, rfl⟩ := hq e rfl
      rw [inner_not] at e1
      simp [m_law_clean, b_law_clean, n1, n2, n3, n4, n5, n6, e1]
    · cases w <;> simp [hdS] at c
    · simp [hdS] at c
  · generalize inner y = I at *
    generalize hdS y = W at *
    simp [m_law_clean, b_law_clean, n1, n2, n3, n4, n5, n6, e1, i0, c]
theorem clean_o (h : Dec m n s y) (hq : Qo y) : m_law_clean [.str (Str.ofString "opened"), y] A = .ok (.bl true) A := by
  have e1 := li_ok h A
  have i0 := hd_ixM h A
  have c : ¬ hdS y = Str.ofString "cases" := hq
  generalize inner y = I at *
  generalize hdS y = W at *
  simp [m_law_clean, b_law_clean, n1, n2, n3, n4, n5, n6, e1, i0, c]
theorem sum_wide : ∀ {es : List D}, (es.map fun e => ((jnP (aoS w) e).length : Int)).sum = (wideN w es : Nat)
  | [] => rfl
  | x :: xs => by
    have ih := sum_wide (es := xs)
    show _ = (((jnW (aoS w) (x :: xs)).length : Nat) : Int)
    have ih : (xs.map fun e => ((jnP (aoS w) e).length : Int)).sum = (((jnW (aoS w) xs).length : Nat) : Int) := ih
    rw [jnW_c, List.length_append, List.map_cons, List.sum_cons, ih]
    omega
theorem clean_j (hm : m ≤ 10) (hn : n ≤ 16) (h : Dec m n s y) (hq : Qj y) : m_law_clean [.str (Str.ofString "joined"), y] A = .ok (.bl true) A := by
  cases n with
  | zero => exact h.elim
  | succ n =>
  have e1 := li_ok h A
  rcases h with ⟨h, h2 | h2 | ⟨k, hk, h2⟩⟩ | ⟨e, t, h1, h2, h3⟩ | ⟨w, es, t, h1, h2, h3, h4, h5⟩ | ⟨ps, e, t, h1, h2, h3, h4, h5, h6⟩
  · subst h2
    generalize inner (.tup [.str "yes"]) = I at *
    simp [m_law_clean, b_law_clean, n1, n2, n3, n4, n5, n6, e1]
  · subst h2
    generalize inner (.tup [.str "no"]) = I at *
    simp [m_law_clean, b_law_clean, n1, n2, n3, n4, n5, n6, e1]
  · subst h2
    generalize inner (.tup [.str "wish", .int k]) = I at *
    simp [m_law_clean, b_law_clean, n1, n2, n3, n4, n5, n6, e1]
  · subst h1
    generalize inner (.tup [.str "not", e]) = I at *
    simp [m_law_clean, b_law_clean, n1, n2, n3, n4, n5, n6, e1]
  · subst h1
    have hq : Qj (.tup [.str (aoS w), .tup es]) := hq
    obtain ⟨q1, q2⟩ := hq w es rfl
    have hie : inner (.tup [.str (if w then "and" else "or"), .tup es]) = es := inner_ao
    rw [hie] at e1
    have L1 : ∀ c x y : Option D, lcD (fun _ => True) (tgN 4) mYes (m2 dIx (mA (newL true) (mArgs (mC (.int 1)) (mArgs (mA fLen (mArgs (mCall m_law_inner [] (mArgs (mVar 4) mArgs0)) mArgs0)) mArgs0))) (mA fInt (mArgs (m2 dEq (m2 dIx (mVar 4) (mC (.int 0))) (m2 dIx (mVar 1) (mC (.int 0)))) mArgs0))) [c, some (.tup [.str (aoS w), .tup es]), x, y, none] es [] A = .ok ((es.map fun e => ((jnP (aoS w) e).length : Int)).map D.int) A := fun c x y => by
      rw [List.map_map]
      refine lcD_map (fun e => D.int ((jnP (aoS w) e).length : Int)) trivial (by omega) fun e he => ⟨_, tgN_e, ?_⟩
      have he1 := li_ok (h4 e he) A
      have hi := hd_ixM (h4 e he) A
      obtain ⟨_, _, _, p4, p5⟩ := jnP_ok (w := w) hm (by omega) (h4 e he)
      by_cases hh : hdS e = aoS w
      · obtain ⟨z1, _⟩ := p5 hh
        have hin : inner e = jnP (aoS w) e := by
          have := congrArg inner z1
          rw [inner_ao] at this
          exact this
        rw [hin] at he1
        generalize jnP (aoS w) e = P at *
        generalize hdS e = W at *
        generalize aoS w = V at *
        subst hh
        simp [he1, hi]
      · rw [p4 hh]
        generalize inner e = I at *
        generalize hdS e = W at *
        generalize aoS w = V at *
        simp [he1, hi, hh]
    have sw := sum_wide (w := w) (es := es)
    have l1 : (es.map fun e => ((jnP (aoS w) e).length : Int)).length < 16777216 := by rw [List.length_map]; omega
    generalize hW : wideN w es = W at *
    generalize (es.map fun e => ((jnP (aoS w) e).length : Int)) = X at *
    have q3 : ¬ es.length ≤ 1 := by omega
    have q4 : (1 : Int) < (es.length : Int) := by omega
    have body : b_law_clean [some (.str (Str.ofString "joined")), some (.tup [.str (aoS w), .tup es]), none, none, none] A = .ok (.rt (.bl true)) A := by
      have e1 : m_law_inner [.tup [.str (aoS w), .tup es]] A = .ok (.lst es) A := e1
      have hd : dIn true (.str (aoS w)) (.lst [.str (Str.ofString "and"), .str (Str.ofString "or")]) A = .ok (.bl false) A := by cases w <;> simp [aoS]
      generalize aoS w = V at *
      rcases q2 with q2 | q2
      · subst q2
        simp [b_law_clean, n1, n2, n3, n4, n5, n6, e1, L1, l1, wipeD, sw, q4, hd]
      · by_cases q5 : W = es.length
        · subst q5
          simp [b_law_clean, n1, n2, n3, n4, n5, n6, e1, L1, l1, wipeD, sw, q4, hd]
        · have q6 : (((W : Nat) : Int) == (es.length : Int)) = false := beq_eq_false_iff_ne.mpr (by omega)
          have q7 : (6 : Int) < ((W : Nat) : Int) := by omega
          simp [b_law_clean, n1, n2, n3, n4, n5, n6, e1, L1, l1, wipeD, sw, q4, hd, q6, q7]
    have := runB_rt (N := 5) (args := [.str (Str.ofString "joined"), .tup [.str (aoS w), .tup es]]) (A := A) rfl body
    rw [trimR_same] at this
    exact this
  · subst h1
    generalize inner (.tup [.str "cases", .tup (ps.map fun p => .tup [p.1, p.2]), e]) = I at *
    simp [m_law_clean, b_law_clean, n1, n2, n3, n4, n5, n6, e1]
theorem pk2_flat {ps : List (D × D)} : pk2 (flatP ps e) = ps.map (·.1) := by
  induction ps with
  | nil => rfl
  | cons p ps ih =>
    show p.1 :: pk2 (flatP ps e) = _
    rw [ih]; rfl
theorem lc_nyn (hl : es.length ≤ 16777216) (h : ∀ e ∈ es, nyn e ∧ ∃ n s, Dec m n s e) {a b c x : Option D} : lcD (fun _ => True) (tgN 4) (mBl (m2 (dIn false) (m2 dIx (mVar 4) (mC (.int 0))) (mA (newL true) (mArgs (mC (.str "yes")) (mArgs (mC (.str "no")) mArgs0))))) (mVar 4) [a, b, c, x, none] es [] A = .ok [] A := by
  rw [lcD_pure (fun _ => false) (fun e => e) trivial (by simpa using hl) fun e he => ?_]
  · simp
  obtain ⟨⟨h1, h2⟩, n, s, hd⟩ := h e he
  have hi := hd_ixM hd A
  have h1 : ¬ hdS e = Str.ofString "yes" := by simpa [isYn, ynS] using h1
  have h2 : ¬ hdS e = Str.ofString "no" := by simpa [isYn, ynS] using h2
  refine ⟨_, tgN_e, ?_, fun h => by cases h⟩
  have h1' : ¬ Str.ofString "yes" = hdS e := fun q => h1 q.symm
  have h2' : ¬ Str.ofString "no" = hdS e := fun q => h2 q.symm
  generalize hdS e = W at *
  simp [hi, h1', h2']
theorem clean_l (hm : m ≤ 10) (h : Dec m n s y) (hq : Ql y) : m_law_clean [.str (Str.ofString "lean"), y] A = .ok (.bl true) A := by
  cases n with
  | zero => exact h.elim
  | succ n =>
  have e1 := li_ok h A
  have q0 : dEq (.lst []) (.lst []) A = .ok (.bl true) A := (eq_lnil (k := 0) (L := 0) (by omega) (fun _ h => absurd h List.not_mem_nil)).1
  have rv : dSl2 true (.lst []) A = .ok (.lst []) A := by
    show newL true _ A = _
    rw [newL_t (by simp [pk2])]; rfl
  have lc0 : ∀ a b c x : Option D, lcD (fun _ => True) (tgN 4) (mBl (m2 (dIn false) (m2 dIx (mVar 4) (mC (.int 0))) (mA (newL true) (mArgs (mC (.str "yes")) (mArgs (mC (.str "no")) mArgs0))))) (mVar 4) [a, b, c, x, none] [] [] A = .ok [] A := fun a b c x => lc_nyn (m := m) (by simp) (fun _ h => absurd h List.not_mem_nil)
  rcases h with ⟨h, h2 | h2 | ⟨k, hk, h2⟩⟩ | ⟨e, t, h1, h2, h3⟩ | ⟨w, es, t, h1, h2, h3, h4, h5⟩ | ⟨ps, e, t, h1, h2, h3, h4, h5, h6⟩
  · subst h2
    rw [inner_yes] at e1
    simp [m_law_clean, b_law_clean, n1, n2, n3, n4, n5, n6, e1, q0, rv, lc0, wipeD]
  · subst h2
    rw [inner_no] at e1
    simp [m_law_clean, b_law_clean, n1, n2, n3, n4, n5, n6, e1, q0, rv, lc0, wipeD]
  · subst h2
    rw [inner_wish] at e1
    simp [m_law_clean, b_law_clean, n1, n2, n3, n4, n5, n6, e1, q0, rv, lc0, wipeD]
  · subst h1
    rw [inner_not] at e1
    have L := fun a b c x => lc_nyn (A := A) (m := m) (es := [e]) (by simp) (fun z hz => by
      rcases List.mem_singleton.mp hz with rfl
      exact ⟨hq.1 z rfl, n, t, h2⟩) (a := a) (b := b) (c := c) (x := x)
    simp [m_law_clean, b_law_clean, n1, n2, n3, n4, n5, n6, e1, q0, L, wipeD]
  · subst h1
    have hq : Ql (.tup [.str (aoS w), .tup es]) := hq
    have nn := hq.2.1 w es rfl
    have hie : inner (.tup [.str (if w then "and" else "or"), .tup es]) = es := inner_ao
    rw [hie] at e1
    have L := fun a b c x => lc_nyn (A := A) (m := m) (es := es) (by omega) (fun z hz => ⟨nn z hz, n, t, h4 z hz⟩) (a := a) (b := b) (c := c) (x := x)
    cases w
    · simp only [Bool.false_eq_true, if_false] at e1 ⊢
      simp [m_law_clean, b_law_clean, n1, n2, n3, n4, n5, n6, e1, q0, L, wipeD]
    · simp only [if_true] at e1 ⊢
      simp [m_law_clean, b_law_clean, n1, n2, n3, n4, n5, n6, e1, q0, L, wipeD]
  · subst h1
    have hq : Ql (.tup [.str "cases", .tup (pairsD ps), e]) := hq
    have nn := hq.2.2 ps e rfl
    have hie : inner (.tup [.str "cases", .tup (ps.map fun p => .tup [p.1, p.2]), e]) = flatP ps e := inner_cases
    rw [hie] at e1
    have L := fun a b c x => lc_nyn (A := A) (m := m) (es := ps.map (·.1)) (by rw [List.length_map]; omega) (fun z hz => by
      obtain ⟨p, hp, rfl⟩ := List.mem_map.mp hz
      exact ⟨nn p hp, n, t, (h4 p hp).1⟩) (a := a) (b := b) (c := c) (x := x)
    have rv : dSl2 true (.lst (flatP ps e)) A = .ok (.lst (ps.map (·.1))) A := by
      show newL true _ A = _
      rw [pk2_flat, newL_t (by rw [List.length_map]; omega)]
    generalize flatP ps e = F at *
    generalize ps.map (·.1) = P1 at *
    simp [m_law_clean, b_law_clean, n1, n2, n3, n4, n5, n6, e1, q0, L, rv, wipeD]
/-! the words -/
theorem i1_p : dInK "RULES" ["pushed", "opened", "joined", "lean"] true (.str (Str.ofString "pushed")) (.cls "RULES") A = .ok (.bl false) A := by
  simp [dInK]
theorem i2_p : dGetK "RULES" ["pushed", "opened", "joined", "lean"] ["pushed", "opened", "joined", "lean"] (.cls "RULES") (.str (Str.ofString "pushed")) A = .ok (.cls "pushed") A := by
  simp [dGetK, List.idxOf_cons]
theorem ne_po : (Str.ofString "pushed" = Str.ofString "opened") = False := eq_false (by decide +kernel)
theorem other_p (h : Dec m n s d) (hn : n ≤ 15) : m_otherwise [d, .str (Str.ofString "pushed")] A = toldR (pshF 16 false d) A :=
  other_gen (mr := m_pushed) i1_p i2_p (by simp [List.lookup]) ne_po (m_pushed_ok h (by omega)) (psh_dec h (by omega)) (by omega)
theorem i1_j : dInK "RULES" ["pushed", "opened", "joined", "lean"] true (.str (Str.ofString "joined")) (.cls "RULES") A = .ok (.bl false) A := by
  simp [dInK]
theorem i2_j : dGetK "RULES" ["pushed", "opened", "joined", "lean"] ["pushed", "opened", "joined", "lean"] (.cls "RULES") (.str (Str.ofString "joined")) A = .ok (.cls "joined") A := by
  have b1 : (Str.ofString "pushed" == Str.ofString "joined") = false := by decide +kernel
  have b2 : (Str.ofString "opened" == Str.ofString "joined") = false := by decide +kernel
  simp [dGetK, List.idxOf_cons, b1, b2]
theorem other_j (hm : m ≤ 10) (h : Dec m n s d) (hn : n ≤ 15) : m_otherwise [d, .str (Str.ofString "joined")] A = toldR (joinF 16 d) A := by
  obtain ⟨⟨S, hS⟩, _, _⟩ := join_ok hm h hn (f := 16) (by omega)
  exact other_gen (mr := m_joined 16) i1_j i2_j (by simp [List.lookup]) n3 (joined_ok hm h hn (by omega) A) hS (by omega)
theorem i1_l : dInK "RULES" ["pushed", "opened", "joined", "lean"] true (.str (Str.ofString "lean")) (.cls "RULES") A = .ok (.bl false) A := by
  simp [dInK]
theorem i2_l : dGetK "RULES" ["pushed", "opened", "joined", "lean"] ["pushed", "opened", "joined", "lean"] (.cls "RULES") (.str (Str.ofString "lean")) A = .ok (.cls "lean") A := by
  have b1 : (Str.ofString "pushed" == Str.ofString "lean") = false := by decide +kernel
  have b2 : (Str.ofString "opened" == Str.ofString "lean") = false := by decide +kernel
  have b3 : (Str.ofString "joined" == Str.ofString "lean") = false := by decide +kernel
  simp [dGetK, List.idxOf_cons, b1, b2, b3]
theorem other_l (hm : m ≤ 10) (h : Dec m n s d) (hn : n ≤ 15) : m_otherwise [d, .str (Str.ofString "lean")] A = toldR (leanF 16 d) A :=
  other_gen (mr := m_lean 16) i1_l i2_l (by simp [List.lookup]) n5 (lean_ok hm (by omega) h (by omega) A) (ln_dec h (by omega)) (by omega)
theorem word_gen {W : Str} {x T : D} {z p : Int} {L : List D} (hT : T = if z ≤ 60 ∧ p ≤ 12 then .tup [.str "told", x] else .tup [.str "many", .int z]) (ho : m_law_otherwise_told [d, .str W] A = .ok T A)
    (hc : z ≤ 60 ∧ p ≤ 12 → m_law_all_parts 16 [x] A = .ok (.lst L) A ∧ L.length ≤ 1000 ∧ (∀ y ∈ L, m_law_clean [.str W, y] A = .ok (.bl true) A) ∧ m_law_otherwise_told [x, .str W] A = .ok (.tup [.str "told", x]) A ∧ dEq (.tup [.str "told", x]) (.tup [.str "told", x]) A = .ok (.bl true) A) :
    m_law_word_right [d, .str W] A = .ok (.bl true) A := by
  have nt : (Str.ofString "told" = Str.ofString "many") = False := eq_false (by decide +kernel)
  by_cases c : z ≤ 60 ∧ p ≤ 12
  · rw [if_pos c] at hT
    subst hT
    obtain ⟨h1, h2, h3, h4, h5⟩ := hc c
    have L1 : ∀ a b : Option D, lcD (fun _ => True) (tgN 3) (mNotT (mTru (mCall m_law_clean [] (mArgs (mVar 1) (mArgs (mVar 3) mArgs0))))) (mVar 3) [a, some (.str W), b, none] L [] A = .ok [] A := fun a b => by
      rw [lcD_pure (fun _ => false) (fun e => e) trivial (by simp; omega) fun e he => ?_]
      · simp
      exact ⟨_, tgN_e, by simp [h3 e he], fun h => by cases h⟩
    have q0 : dNe (.lst []) (.lst []) A = .ok (.bl false) A := (eq_lnil (k := 0) (L := 0) (by omega) (fun _ h => absurd h List.not_mem_nil)).2
    have i0 : ∀ B, dIx (.tup [.str (Str.ofString "told"), x]) (.int 0) B = .ok (.str (Str.ofString "told")) B := fun _ => rfl
    have i1 : ∀ B, dIx (.tup [.str (Str.ofString "told"), x]) (.int 1) B = .ok x B := fun _ => rfl
    generalize D.tup [.str (Str.ofString "told"), x] = T at *
    simp [m_law_word_right, b_law_word_right, ho, i0, i1, nt, h1, L1, q0, h4, h5, wipeD]
  · rw [if_neg c] at hT
    subst hT
    simp [m_law_word_right, b_law_word_right, ho]
theorem told_self (hm : m ≤ 10) (h : Dec m n s d) (hn : n ≤ 16) (A : List Vi.O) : dEq (.tup [.str "told", d]) (.tup [.str "told", d]) A = .ok (.bl true) A ∧ dNe (.tup [.str "told", d]) (.tup [.str "told", d]) A = .ok (.bl false) A :=
  eq_self (Pyd.tup (Pyl.cons Pyd.told (Pyl.cons (h.py hm) Pyl.nil))) (by omega) A
/-- of a decision that comes by a word: what the law asks of it -/
theorem word_ok {W : Str} {x : D} {z p : Int} {Q : D → Prop} (hm : m ≤ 10) (ho : m_law_otherwise_told [d, .str W] A = .ok (if z ≤ 60 ∧ p ≤ 12 then .tup [.str "told", x] else .tup [.str "many", .int z]) A)
    (hx : z ≤ 60 ∧ p ≤ 12 → n ≤ 16 ∧ Dec m n s x ∧ szI 16 x = z ∧ m_law_otherwise_told [x, .str W] A = .ok (.tup [.str "told", x]) A) (hq : AllQ Q x) (hcl : n ≤ 16 → ∀ y, Dec m n s y → Q y → m_law_clean [.str W, y] A = .ok (.bl true) A) :
    m_law_word_right [d, .str W] A = .ok (.bl true) A :=
  word_gen (L := apL 16 x) rfl ho fun c => by
    obtain ⟨c1, c2⟩ := c
    obtain ⟨hn, h1, h2, h3⟩ := hx ⟨c1, c2⟩
    refine ⟨all_parts_ok h1 hn (by omega) A, ?_, fun y hy => hcl hn y (apL_dec h1 y hy) (hq 16 y hy), h3, (told_self hm h1 hn A).1⟩
    have := apL_len (n := 16) (d := x)
    omega
theorem toldD_if : toldD d = if szI 16 d ≤ 60 ∧ dpI 16 d ≤ 12 then .tup [.str "told", d] else .tup [.str "many", .int (szI 16 d)] := rfl
theorem right_p (hm : m ≤ 10) (h : Dec m n s d) (hn : n ≤ 13) : m_law_word_right [d, .str (Str.ofString "pushed")] A = .ok (.bl true) A := by
  have hx := psh_dec (a := false) h (f := 16) (by omega)
  have e1 := told_ok (other_p (A := A) h (by omega))
  have e2 := told_ok (other_p (A := A) hx (by omega))
  have e3 : pshF 16 false (pshF 16 false d) = pshF 16 false d := psh_psh h (by omega) (by omega)
  have hq := psh_all (a := false) h (f := 16) (by omega)
  rw [e3] at e2
  rw [toldD_if] at e1 e2
  refine word_ok (Q := Qp) hm e1 (fun c => ⟨by omega, hx, rfl, ?_⟩) hq fun _ y hy hq => clean_p hy hq
  rw [if_pos c] at e2
  exact e2
theorem right_op (hm : m ≤ 10) (h : Dec m n s d) (hn : n ≤ 13) : m_law_word_right [d, .str (Str.ofString "opened")] A = .ok (.bl true) A := by
  have e1 := told_gen (other_o (A := A) h (by omega))
  obtain ⟨_, N, S, h2, h3, h4⟩ := opn_opd h (f := 16) (by omega)
  have hq := opn_all h (f := 16) (by omega)
  unfold oprD at e1
  refine word_ok (Q := Qo) (n := N) (s := S) hm e1 (fun c => ?_) hq fun _ y hy hq => clean_o hy hq
  obtain ⟨c1, c2⟩ := c
  obtain ⟨g1, g2⟩ := h4 16 (by omega)
  obtain ⟨z1, z2⟩ := osz_id h3 hq (f := 16) (by omega)
  have e2 := told_gen (other_o (A := A) h3 (by omega))
  rw [z1, z2, g1, g2, opn_id h3 hq (by omega)] at e2
  unfold oprD at e2
  rw [if_pos ⟨c1, c2⟩] at e2
  exact ⟨by omega, h3, g1, e2⟩
theorem right_j (hm : m ≤ 10) (h : Dec m n s d) (hn : n ≤ 13) : m_law_word_right [d, .str (Str.ofString "joined")] A = .ok (.bl true) A := by
  obtain ⟨⟨S, hx⟩, _, _⟩ := join_ok hm h (by omega) (f := 16) (by omega)
  have hq := jn_all hm h (by omega) (f := 16) (by omega)
  have e1 := told_ok (other_j (A := A) hm h (by omega))
  have e2 := told_ok (other_j (A := A) hm hx (by omega))
  rw [jn_id hm hx (by omega) hq (by omega)] at e2
  rw [toldD_if] at e1 e2
  refine word_ok (Q := Qj) hm e1 (fun c => ⟨by omega, hx, rfl, ?_⟩) hq fun hn y hy hq => clean_j hm hn hy hq
  rw [if_pos c] at e2
  exact e2
theorem right_l (hm : m ≤ 10) (h : Dec m n s d) (hn : n ≤ 13) : m_law_word_right [d, .str (Str.ofString "lean")] A = .ok (.bl true) A := by
  have hx := ln_dec h (f := 16) (by omega)
  have hq := ln_all h (f := 16) (by omega)
  have e1 := told_ok (other_l (A := A) hm h (by omega))
  have e2 := told_ok (other_l (A := A) hm hx (by omega))
  rw [ln_id hx hq (by omega)] at e2
  rw [toldD_if] at e1 e2
  refine word_ok (Q := Ql) hm e1 (fun c => ⟨by omega, hx, rfl, ?_⟩) hq fun hn y hy hq => clean_l hm hy hq
  rw [if_pos c] at e2
  exact e2
section
variable {a0 a1 a2 a3 a4 a5 a6 : Option D}
theorem words_ok (hm : m ≤ 10) (h : Dec m n s d) (hn : n ≤ 13) : ∃ x, b_law_2 [a0, a1, a2, a3, some d, a5, a6] A = .ok (.nx [a0, a1, a2, a3, some d, a5, x]) A := by
  have r1 := right_p (A := A) hm h hn
  have r2 := right_op (A := A) hm h hn
  have r3 := right_j (A := A) hm h hn
  have r4 := right_l (A := A) hm h hn
  refine ⟨some (.str (Str.ofString "lean")), ?_⟩
  simp [b_law_2, forD, b_law_1, r1, r2, r3, r4]
end
theorem dd_not (h : Dec m n s d) : Dec m (n + 1) (s + 1) (.tup [.str "not", d]) := .inr (.inl ⟨d, s, rfl, h, Nat.le_refl _⟩)
theorem toldD_self (hm : m ≤ 10) (h : Dec m n s d) (hn : n ≤ 16) (hs : s < 1000) (A : List Vi.O) : dNe (toldD d) (toldD d) A = .ok (.bl false) A := by
  unfold toldD
  split
  · exact (told_self hm h hn A).2
  · have z0 := szI_nn (n := 16) (d := d)
    have z1 := szI_le h (f := 16) hn
    obtain ⟨z, hz⟩ := Int.eq_ofNat_of_zero_le z0
    rw [hz]
    exact (eq_self (Pyd.tup (k := 0) (Pyl.cons Pyd.many (Pyl.cons (Pyd.dig3 (i := z) (by omega)) Pyl.nil))) (by omega) A).2
end
theorem law_true (ns : List Int) (h : ns.length ≤ 63) (hb : ∀ z ∈ ns, Builtin.Int.intBits z ≤ 1048576) : ∃ A, m_law [.scr (ns.map D.int)] [] = .ok (.bl true) A := by
  obtain ⟨k, rest', A', e1, _, _⟩ := law_forI (K := 20) (i := 1) (body := b_law_3) (ns := ns) (rest0 := [none, none, none, none, none, none]) (A0 := []) (by omega) (by omega) (by omega)
    (fun _ rest _ => ∃ y1 y2 y3 y4 y5 y6, rest = [y1, y2, y3, y4, y5, y6]) ⟨_, _, _, _, _, _, rfl⟩ fun k rest A hk ⟨y1, y2, y3, y4, y5, y6, hr⟩ => by
      subst hr
      obtain ⟨ra, rb, e0⟩ := pool_ok (ns := ns) (k := k) (A := A) (by omega) (by omega)
      have P0 : Pl A.length (A ++ [.lst [.int ra, .int rb]]) := ⟨ra, rb, by simp⟩
      obtain ⟨z, A1, z0, z1, e1, P1, G1⟩ := take_i P0 (m := 5) (by decide) (by decide)
      obtain ⟨r, A2, r0, r1, e2, P2, G2⟩ := take_i P1 (m := 40) (by decide) (by decide)
      obtain ⟨w, A3, w0, w1, e3, P3, G3⟩ := take_i P2 (m := 8) (by decide) (by decide)
      obtain ⟨m, hm⟩ := Int.eq_ofNat_of_zero_le (show 0 ≤ 1 + z by omega)
      obtain ⟨d, A4, e4, D4, P4, G4, _⟩ := decision_ok (m := 1 + z) (by omega) (by omega) (n := A.length) 16 (g := 9) (room := 2 + r) (deep := 2 + w) P3 (by omega) (by omega) (by decide) (by omega) (by decide) (by omega)
      rw [hm] at e4 D4
      rw [Int.toNat_natCast] at D4
      have hm10 : m ≤ 10 := by omega
      have D5 : Dec m 9 41 d := D4.mono (Nat.le_refl _) (by omega)
      obtain ⟨v, A5, v0, v1, f1, P5, G5⟩ := take_i P4 (m := 9) (by decide) (by decide)
      obtain ⟨d2, A6, f2, D6, Q6⟩ := strewn_ok (mm := 2 + v) (by omega) (by omega) D5 (f := 16) (by omega) P5
      have D7 := dd_not D6
      have e1e := fun a0 a1 a2 a3 a5 a6 => words_ok (a0 := a0) (a1 := a1) (a2 := a2) (a3 := a3) (a5 := a5) (a6 := a6) (A := A6) hm10 D6 (by omega)
      have e2e := fun a0 a1 a2 a3 a5 a6 => words_ok (a0 := a0) (a1 := a1) (a2 := a2) (a3 := a3) (a5 := a5) (a6 := a6) (A := A6) hm10 D7 (by omega)
      have X1 := psh_dec (a := false) D6 (f := 16) (by omega)
      have X2 := dd_not X1
      have o1 := told_ok (other_p (A := A6) D6 (by omega))
      have o2 := told_ok (other_p (A := A6) X2 (by omega))
      have o3 := told_ok (other_p (A := A6) D7 (by omega))
      have s1 := law_size_ok X1 (f := 16) (by omega) A6
      have u1 : pshF 16 false (.tup [.str "not", pshF 16 false d2]) = pshF 15 true d2 := by
        rw [psh_not]
        exact psh_psh D6 (by omega) (by omega)
      have u2 : pshF 16 false (.tup [.str "not", d2]) = pshF 15 true d2 := psh_not
      rw [u1] at o2
      rw [u2] at o3
      have t1 := toldD_self hm10 (psh_dec (a := true) D6 (f := 15) (by omega)) (by omega) (by omega) A6
      rw [toldD_if] at o1
      generalize pshF 16 false d2 = x at *
      generalize toldD (pshF 15 true d2) = T2 at *
      obtain ⟨x1, L1⟩ := e1e (some (.scr (ns.map D.int))) (some (.int k)) (some (.ref A.length)) (some d2) y5 y6
      obtain ⟨x2, L2⟩ := e2e (some (.scr (ns.map D.int))) (some (.int k)) (some (.ref A.length)) (some d2) y5 x1
      have nt : (Str.ofString "many" = Str.ofString "told") = False := eq_false (by decide +kernel)
      generalize A ++ [O.lst [.int ra, .int rb]] = Z0 at *
      generalize A.length = p at *
      by_cases c : szI 16 x ≤ 60 ∧ dpI 16 x ≤ 12
      · rw [if_pos c] at o1
        generalize szI 16 x = q1 at *
        generalize dpI 16 x = q2 at *
        have i0 : ∀ B, dIx (.tup [.str (Str.ofString "told"), x]) (.int 0) B = .ok (.str (Str.ofString "told")) B := fun _ => rfl
        have i1 : ∀ B, dIx (.tup [.str (Str.ofString "told"), x]) (.int 1) B = .ok x B := fun _ => rfl
        generalize D.tup [.str (Str.ofString "told"), x] = T1 at *
        by_cases c1 : q1 < 60
        · by_cases c2 : q2 < 12
          · exact ⟨[some (.int k), some (.ref p), some d2, some (.tup [.str "not", d2]), some T1, x2], A6, by simp [b_law_3, e0, e1, e2, e3, hm, e4, f1, f2, forD, L1, L2, o1, i0, i1, s1, c1, c2, o2, o3, t1], _, _, _, _, _, _, rfl⟩
          · exact ⟨[some (.int k), some (.ref p), some d2, some (.tup [.str "not", d2]), some T1, x2], A6, by simp [b_law_3, e0, e1, e2, e3, hm, e4, f1, f2, forD, L1, L2, o1, i0, i1, s1, c1, c2], _, _, _, _, _, _, rfl⟩
        · exact ⟨[some (.int k), some (.ref p), some d2, some (.tup [.str "not", d2]), some T1, x2], A6, by simp [b_law_3, e0, e1, e2, e3, hm, e4, f1, f2, forD, L1, L2, o1, i0, i1, s1, c1], _, _, _, _, _, _, rfl⟩
      · rw [if_neg c] at o1
        generalize szI 16 x = q1 at *
        have i0 : ∀ B, dIx (.tup [.str (Str.ofString "many"), .int q1]) (.int 0) B = .ok (.str (Str.ofString "many")) B := fun _ => rfl
        generalize D.tup [.str (Str.ofString "many"), .int q1] = T1 at *
        exact ⟨[some (.int k), some (.ref p), some d2, some (.tup [.str "not", d2]), some T1, x2], A6, by simp [b_law_3, e0, e1, e2, e3, hm, e4, f1, f2, forD, L1, L2, o1, i0, nt], _, _, _, _, _, _, rfl⟩
  have key : b_law [some (.scr (ns.map D.int)), none, none, none, none, none, none] [] = .ok (.rt (.bl true)) A' := by
    unfold b_law
    rw [sSeq_e]
    rw [e1]
    simp
  obtain ⟨B, hB⟩ := trimR_some (A := []) (A' := A') (d := .bl true)
  exact ⟨B, by unfold m_law; rw [runB_rt rfl key, hB]⟩
end Lw
end
section
set_option Elab.async false
set_option linter.all false
set_option maxRecDepth 100000
set_option maxHeartbeats 2000000
/-! a law's end: what the top leaves, by one run of it in the kernel -/
namespace Vi
open PySem PySem.Spec PyProof.Rows L2 He
/-- the end of a law, the written part found on the way -/
theorem walkE {l : PySem.W.OpenLaw} {n k : Nat} {q : Program} {loose : List Str} {XP : (Str → Option Value) → Heap → Prop} {YP : World → Heap → Prop} {d : DefRec} {x : Str} {m : List D → List O → R D}
    (hn : l.most = some n) (hn2 : n ≤ sizeLine) (hdf : d.params.defaults = []) (hr : Room k callerA)
    (F : ∀ (w : World) (mg : Str → Option Value) (fa : Addr) (h : Heap), YP w h → h.Ns mainGlobals mg → mg d.name = some (.ref fa) →
      ∃ (K : PySem.W.Frag) (c : String → Addr) (fd : FuncData), K.In h ∧ (∀ (s : Shared) (u : Value), BindsTo s fd ⟨[u], []⟩ [(x, u)]) ∧
        ∀ base : Heap, K.In base → base.Ns mainGlobals mg → FnG l.prog w K mg base k fa fd [x] (spG ⟨K, c⟩ 1 m))
    (law : ∀ ns : List Int, ns.length ≤ n → (∀ z ∈ ns, Builtin.Int.intBits z ≤ 1048576) → ∃ A, m [.scr (ns.map D.int)] [] = .ok (.bl true) A) :
    PySem.W.WalkO q loose XP YP l.row.toRowW d [] (fun f vs => PySem.call f vs) := by
  refine Att.attach_callB hn hdf fun w s₀ s₁ mg mb fa o pm cd doc a vs ns G Y ho hd hcd hmg hobj hints hlen hbits hg => ?_
  obtain ⟨K, c, fd, KX, hb, hF⟩ := F w mg fa _ Y G.T.g hmg
  obtain ⟨A, hA⟩ := law ns hlen hbits
  exact law_callG KX G.T.g G.T.b G.T.builtins G.T.nolimit hg hobj hints (Nat.le_trans hlen hn2) hr hF hb fun H hO hS => sp_law hS hA
section
variable {ck : List (PySem.W.Frag → Bool)} {fn : List DefD} {dx : List (Str × List Str)} {w : World} {K : PySem.W.Frag}
theorem ck_of (c : obsV ck fn dx K = valHd fn dx w) (i : Nat) {f : PySem.W.Frag → Bool} (h : ck[i]? = some f) : f K = true := by
  have c1 := (ba (show ((ck.all fun f => f K) && fn.all fun d => d.ok K) = true from congrArg (fun z : AlV => z.1) c)).1
  exact List.all_eq_true.mp c1 f (List.mem_of_getElem? h)
/-- a def: its object, whatever its defaults -/
theorem def_of (c : obsV ck fn dx K = valHd fn dx w) (i : Nat) {d : DefD} (h : fn[i]? = some d) :
    ∃ (oc : Value) (od : Option Addr) (dV kV doc pm : Value) (an : Option Addr) (cdv ct : Value) (osl : Array (Option Value)),
      K.lookup (fAd K d.at_) = some ⟨oc, od, .func (PySem.W.fnOf d.name d.qual d.params d.body d.scope dV kV doc pm an cdv ct), osl⟩ ∧ PySem.W.codeIn K cdv d.qual = true ∧ PySem.W.keepIn K (.ref (fAd K d.at_)) = true ∧ dflB K dV (d.dvs K) = true := by
  have c2 := (ba (show ((ck.all fun f => f K) && fn.all fun d => d.ok K) = true from congrArg (fun z : AlV => z.1) c)).2
  have e : fn.map (fun d => fnW K d.at_) = fn.map DefD.val := congrArg (fun z : AlV => z.2.1) c
  have e2 : (fn.map fun d => fnW K d.at_)[i]? = (fn.map DefD.val)[i]? := by rw [e]
  rw [List.getElem?_map, List.getElem?_map, h] at e2
  have e : fnW K d.at_ = d.val := Option.some.inj e2
  obtain ⟨kp, c2⟩ := ba (List.all_eq_true.mp c2 d (List.mem_of_getElem? h))
  unfold fnW at e
  cases q : K.lookup (fAd K d.at_) with
  | none =>
    rw [q] at c2
    cases c2
  | some o =>
    obtain ⟨oc, od, dt, osl⟩ := o
    rw [q] at c2 e
    cases dt with
    | func fd =>
      obtain ⟨n1, n2, n3, n4, n5, n6, n7, n8, n9, n10, n11, n12, n13, n14, n15⟩ := fd
      have e2 : (some (n1, n2, n3, n4, n5, n6, n7, n15) : FnW) = some (d.name, d.qual, d.params, .stmts d.body, d.scope, mainGlobals, [], builtinsNs) := e
      simp only [Option.some.injEq, Prod.mk.injEq] at e2
      obtain ⟨h1, h2, h3, h4, h5, h6, h7, h8⟩ := e2
      subst h1 h2 h3 h4 h5 h6 h7 h8
      have c3 : (PySem.W.codeIn K n13 d.qual && (dflB K n8 (d.dvs K) && kwdB K n9 (d.kws K))) = true := c2
      obtain ⟨k1, k2⟩ := ba c3
      obtain ⟨k3, k4⟩ := ba k2
      exact ⟨_, _, _, _, _, _, _, _, _, _, rfl, k1, kp, k3⟩
    | _ => cases c2
end
theorem dic_of {ck : List (PySem.W.Frag → Bool)} {fn : List DefD} {dx : List (Str × List Str)} {w : World} {K : PySem.W.Frag} (c : obsV ck fn dx K = valHd fn dx w) (i : Nat) {p : Str × List Str} (h : dx[i]? = some p) : dicW K (ga K p.1) = some (keysIn w.params p.2) := by
  have e : dx.map (fun p => dicW K (ga K p.1)) = dx.map fun p => some (keysIn w.params p.2) := congrArg (fun z : AlV => z.2.2) c
  have e2 : (dx.map fun p => dicW K (ga K p.1))[i]? = (dx.map fun p => some (keysIn w.params p.2))[i]? := by rw [e]
  rw [List.getElem?_map, List.getElem?_map, h] at e2
  exact Option.some.inj e2
theorem keys_find {P : Params} {z : Str} : ∀ {l : List DictEntry} {ks : List Str}, l.map He.keyOf = keysIn P ks → ((l.find? fun e => e.key.isStr z).isSome = decide (z ∈ ks)) ∧ l.any (fun e => e.refKey) = false
  | [], [], _ => by simp
  | [], _ :: _, h => by cases h
  | e :: r, [], h => by cases h
  | e :: r, k :: ks, h => by
    have h1 : He.keyOf e :: r.map He.keyOf = some (k, PyData.keyHash P k) :: keysIn P ks := h
    injection h1 with h2 h3
    obtain ⟨q1, q2⟩ := keys_find (z := z) h3
    unfold He.keyOf at h2
    split at h2
    · rename_i x t q
      obtain ⟨h5, h6⟩ := Prod.mk.inj (Option.some.inj h2)
      subst h5
      have e1 : e.key.isStr z = (x == z) := by rw [q]; rfl
      have e2 : e.refKey = false := by unfold DictEntry.refKey; rw [q]
      refine ⟨?_, by rw [List.any_cons, e2, q2]; rfl⟩
      rw [List.find?_cons, e1]
      by_cases c : x = z
      · subst c
        simp
      · have c2 : (x == z) = false := by simpa using c
        rw [c2]
        simp only [q1]
        simp [Ne.symm c]
    · cases h2
theorem dicV_ok {K : PySem.W.Frag} {w : World} {a : Addr} {ks : List Str} (h : dicW K a = some (keysIn w.params ks)) : (∃ es n, KDict K w a es n) ∧ ∀ z : Str, ∃ r, PySem.W.nsIn K a z = some r ∧ r.isSome = decide (z ∈ ks) := by
  refine ⟨dicW_ok h, fun z => ?_⟩
  obtain ⟨es, n, D⟩ := dicW_ok h
  have e : es.toList.map He.keyOf = keysIn w.params ks := by
    unfold dicW at h
    rw [D.at_] at h
    dsimp only at h
    split at h
    · exact Option.some.inj h
    · cases h
  obtain ⟨q1, q2⟩ := keys_find (z := z) e
  unfold PySem.W.nsIn
  rw [D.at_]
  dsimp only
  cases f : es.toList.find? (fun e => e.key.isStr z) with
  | some x =>
    rw [f] at q1
    exact ⟨some x.val, rfl, q1⟩
  | none =>
    rw [f] at q1
    refine ⟨none, ?_, q1⟩
    show (if es.toList.any (·.refKey) = true then none else some none) = some none
    rw [q2]
    rfl
theorem dfl_none {K : PySem.W.Frag} {dV : Value} (h : dflB K dV [] = true) : dV = .none := by
  cases dV with
  | none => rfl
  | _ => cases h
theorem ckI_ok {x : Str} {i : Int} {K : PySem.W.Frag} (h : ckI x i K = true) : ∃ t, PySem.W.nsIn K mainGlobals x = some (some (.int i t)) := by
  unfold ckI at h
  split at h
  · rename_i j t e
    rw [of_decide_eq_true h] at e
    exact ⟨t, e⟩
  · cases h
theorem ckC_ok {C : PySem.W.Frag → Addr} {m : Str} {b : String} {K : PySem.W.Frag} (h : ckC C m b K = true) : PySem.W.findCls K (.ref (C K)) (.type "type") m = some (.val (.builtin b)) := by
  unfold ckC at h
  split at h
  · rename_i n e
    rw [of_decide_eq_true h] at e
    exact e
  · cases h
theorem ckX_ok {K : PySem.W.Frag} {C : Addr} {chain : List Value} {newId : String} (q : ckX C chain newId K = true) :
    ∃ (nm qn : Str) (N : Addr) (bs : List Value) (sn : List Str) (sub : List Value) (ab : Bool) (col : Option Bool) (dd : Option Addr) (k0 k1 k2 k3 k5 : Option Value), K.lookup C = some (excClassObj nm qn C N bs chain true sn sub ab col dd k0 k1 k2 k3 k5 newId) := by
  unfold ckX at q
  split at q
  · rename_i dd cd sl ho
    split at q
    · rename_i C' bm k0 k1 k2 k3 n k5 hm hs
      obtain ⟨q1, q⟩ := ba q
      obtain ⟨q2, q⟩ := ba q
      obtain ⟨q3, q⟩ := ba q
      obtain ⟨q4, q5⟩ := ba q
      have e1 := beq_iff_eq.mp q1
      have e2 := beq_iff_eq.mp q2
      have e5 := of_decide_eq_true q5
      subst e1 e2 e5
      obtain ⟨nm, bs, mro, ns, qn, hd, sn, sub, ab, col, del⟩ := cd
      dsimp only at hm q3 q4
      have q3 : del = false := by simpa using q3
      subst hm q3 q4
      have hsl : sl = #[k0, k1, k2, k3, some (.builtin n), k5] := by
        obtain ⟨l⟩ := sl
        simp only at hs
        rw [hs]
      subst hsl
      exact ⟨nm, qn, ns, bs, sn, sub, ab, col, dd, k0, k1, k2, k3, k5, ho⟩
    · cases q
  · cases q
end Vi
end
section
set_option Elab.async false
set_option linter.all false
set_option maxRecDepth 100000
namespace Lw
open PySem PySem.Spec PyProof.Rows L2 Vi Mb He
set_option maxHeartbeats 0 in
theorem hFacts {l : PySem.W.OpenLaw} {w : World} {K : PySem.W.Frag} {h : Heap} {mg : Str → Option Value} {fa : Addr} (X : K.In h) (G : h.Ns mainGlobals mg) (hfa : mg "law" = some (.ref fa)) (cc : obsV hCk hFn hDx K = valHd hFn hDx w) :
    ∃ (c : String → Addr) (fd : FuncData), (∀ (s : Shared) (v : Value), BindsTo s fd ⟨[v], []⟩ [("_law_script", v)]) ∧ ∀ base : Heap, K.In base → base.Ns mainGlobals mg → FnG l.prog w K mg base 22 fa fd ["_law_script"] (spG ⟨K, c⟩ 1 m_law) := by
  have xv0 := ckC_ok (ck_of (f := ckC (fun K => (ga K "AloneError")) "__init__" "ValueError.__init__") cc 7 rfl)
  obtain ⟨_, _, _, _, _, _, _, _, _, _, _, _, _, _, xl1⟩ := ckX_ok (ck_of (f := fun K => ckX (ga K "TooMany") [.ref (ga K "AloneError"), .type "ValueError", .type "Exception", .type "BaseException", .type "object"] "ValueError.__new__" K) cc 16 rfl)
  obtain ⟨ocx1, odx1, dVx1, kVx1, dcx1, pmx1, anx1, cdx1, ctx1, slx1, lx1, cx1, kx1, dx1⟩ := def_of cc 0 (d := hd_0) rfl
  have ex1 := dfl_none dx1
  subst ex1
  obtain ⟨oc0, od0, dV0, kV0, dc0, pm0, an0, cd0, ct0, sl0, l0, c0, k0, d0⟩ := def_of cc 1 (d := hd_1) rfl
  have e0 := dfl_none d0
  subst e0
  obtain ⟨oc1, od1, dV1, kV1, dc1, pm1, an1, cd1, ct1, sl1, l1, c1, k1, d1⟩ := def_of cc 2 (d := hd_2) rfl
  have e1 := dfl_none d1
  subst e1
  obtain ⟨oc2, od2, dV2, kV2, dc2, pm2, an2, cd2, ct2, sl2, l2, c2, k2, d2⟩ := def_of cc 3 (d := hd_3) rfl
  have e2 := dfl_none d2
  subst e2
  obtain ⟨oc3, od3, dV3, kV3, dc3, pm3, an3, cd3, ct3, sl3, l3, c3, k3, d3⟩ := def_of cc 4 (d := hd_4) rfl
  have e3 := dfl_none d3
  subst e3
  obtain ⟨oc4, od4, dV4, kV4, dc4, pm4, an4, cd4, ct4, sl4, l4, c4, k4, d4⟩ := def_of cc 5 (d := hd_5) rfl
  have e4 := dfl_none d4
  subst e4
  obtain ⟨oc5, od5, dV5, kV5, dc5, pm5, an5, cd5, ct5, sl5, l5, c5, k5, d5⟩ := def_of cc 6 (d := hd_6) rfl
  have e5 := dfl_none d5
  subst e5
  obtain ⟨oc6, od6, dV6, kV6, dc6, pm6, an6, cd6, ct6, sl6, l6, c6, k6, d6⟩ := def_of cc 7 (d := hd_7) rfl
  have e6 := dfl_none d6
  subst e6
  obtain ⟨oc7, od7, dV7, kV7, dc7, pm7, an7, cd7, ct7, sl7, l7, c7, k7, d7⟩ := def_of cc 8 (d := hd_8) rfl
  have e7 := dfl_none d7
  subst e7
  obtain ⟨oc8, od8, dV8, kV8, dc8, pm8, an8, cd8, ct8, sl8, l8, c8, k8, d8⟩ := def_of cc 9 (d := hd_9) rfl
  have e8 := dfl_none d8
  subst e8
  obtain ⟨oc9, od9, dV9, kV9, dc9, pm9, an9, cd9, ct9, sl9, l9, c9, k9, d9⟩ := def_of cc 10 (d := hd_10) rfl
  have e9 := dfl_none d9
  subst e9
  obtain ⟨oc10, od10, dV10, kV10, dc10, pm10, an10, cd10, ct10, sl10, l10, c10, k10, d10⟩ := def_of cc 11 (d := hd_11) rfl
  have e10 := dfl_none d10
  subst e10
  obtain ⟨oc11, od11, dV11, kV11, dc11, pm11, an11, cd11, ct11, sl11, l11, c11, k11, d11⟩ := def_of cc 12 (d := hd_12) rfl
  have e11 := dfl_none d11
  subst e11
  obtain ⟨oc12, od12, dV12, kV12, dc12, pm12, an12, cd12, ct12, sl12, l12, c12, k12, d12⟩ := def_of cc 13 (d := hd_13) rfl
  have e12 := dfl_none d12
  subst e12
  obtain ⟨oc13, od13, dV13, kV13, dc13, pm13, an13, cd13, ct13, sl13, l13, c13, k13, d13⟩ := def_of cc 14 (d := hd_14) rfl
  have e13 := dfl_none d13
  subst e13
  obtain ⟨oc14, od14, dV14, kV14, dc14, pm14, an14, cd14, ct14, sl14, l14, c14, k14, d14⟩ := def_of cc 15 (d := hd_15) rfl
  have e14 := dfl_none d14
  subst e14
  obtain ⟨oc15, od15, dV15, kV15, dc15, pm15, an15, cd15, ct15, sl15, l15, c15, k15, d15⟩ := def_of cc 16 (d := hd_16) rfl
  have e15 := dfl_none d15
  subst e15
  obtain ⟨oc16, od16, dV16, kV16, dc16, pm16, an16, cd16, ct16, sl16, l16, c16, k16, d16⟩ := def_of cc 17 (d := hd_17) rfl
  have e16 := dfl_none d16
  subst e16
  obtain ⟨oc17, od17, dV17, kV17, dc17, pm17, an17, cd17, ct17, sl17, l17, c17, k17, d17⟩ := def_of cc 18 (d := hd_18) rfl
  have e17 := dfl_none d17
  subst e17
  obtain ⟨oc18, od18, dV18, kV18, dc18, pm18, an18, cd18, ct18, sl18, l18, c18, k18, d18⟩ := def_of cc 19 (d := hd_19) rfl
  have e18 := dfl_none d18
  subst e18
  obtain ⟨oc19, od19, dV19, kV19, dc19, pm19, an19, cd19, ct19, sl19, l19, c19, k19, d19⟩ := def_of cc 20 (d := hd_20) rfl
  have e19 := dfl_none d19
  subst e19
  obtain ⟨oc20, od20, dV20, kV20, dc20, pm20, an20, cd20, ct20, sl20, l20, c20, k20, d20⟩ := def_of cc 21 (d := hd_21) rfl
  have e20 := dfl_none d20
  subst e20
  obtain ⟨oc21, od21, dV21, kV21, dc21, pm21, an21, cd21, ct21, sl21, l21, c21, k21, d21⟩ := def_of cc 22 (d := hd_22) rfl
  have e21 := dfl_none d21
  subst e21
  obtain ⟨oc22, od22, dV22, kV22, dc22, pm22, an22, cd22, ct22, sl22, l22, c22, k22, d22⟩ := def_of cc 23 (d := hd_23) rfl
  have e22 := dfl_none d22
  subst e22
  obtain ⟨oc23, od23, dV23, kV23, dc23, pm23, an23, cd23, ct23, sl23, l23, c23, k23, d23⟩ := def_of cc 24 (d := hd_24) rfl
  have e23 := dfl_none d23
  subst e23
  obtain ⟨oc24, od24, dV24, kV24, dc24, pm24, an24, cd24, ct24, sl24, l24, c24, k24, d24⟩ := def_of cc 25 (d := hd_25) rfl
  have e24 := dfl_none d24
  subst e24
  obtain ⟨t_DEEPEST, q_DEEPEST⟩ := ckI_ok (ck_of cc 77 rfl)
  obtain ⟨t_MOST_PARTS, q_MOST_PARTS⟩ := ckI_ok (ck_of cc 78 rfl)
  obtain ⟨t_MOST_WITHIN, q_MOST_WITHIN⟩ := ckI_ok (ck_of cc 79 rfl)
  obtain ⟨gk0, gi0⟩ := dicV_ok (dic_of cc 0 rfl)
  exact all_mk (X0 := (ga K "AloneError")) (X1 := (ga K "TooMany")) (X2 := (ga K "NoWord")) (fx1 := (ma K (ga K "TooMany") "__init__")) (f0 := (ga K "inner_parts")) (f1 := (ga K "rebuilt")) (f2 := (ga K "other_word")) (f3 := (ga K "pushed_by")) (f4 := (ga K "pushed")) (f5 := (ga K "opened")) (f6 := (ga K "joined")) (f7 := (ga K "lean_cases")) (f8 := (ga K "lean")) (f9 := (ga K "size_of")) (f10 := (ga K "opened_size")) (f11 := (ga K "look_at_great")) (f12 := (ga K "otherwise")) (f13 := (ga K "_law_pool")) (f14 := (ga K "_law_take")) (f15 := (ga K "_law_decision")) (f16 := (ga K "_law_inner")) (f17 := (ga K "_law_put")) (f18 := (ga K "_law_strewn")) (f19 := (ga K "_law_size")) (f20 := (ga K "_law_otherwise_told")) (f21 := (ga K "_law_all_parts")) (f22 := (ga K "_law_clean")) (f23 := (ga K "_law_word_right")) (f24 := (ga K "law")) (TG_YES := (ga K "YES")) (TG_NO := (ga K "NO")) (RD_RULES := (ga K "RULES")) X G hfa
    (of_decide_eq_true (ck_of cc 0 rfl))
    (of_decide_eq_true (ck_of cc 1 rfl))
    (of_decide_eq_true (ck_of cc 2 rfl))
    (of_decide_eq_true (ck_of cc 3 rfl))
    (of_decide_eq_true (ck_of cc 4 rfl))
    (of_decide_eq_true (ck_of cc 5 rfl))
    (of_decide_eq_true (ck_of cc 6 rfl))
    xv0
    (of_decide_eq_true (ck_of cc 8 rfl))
    (of_decide_eq_true (ck_of cc 9 rfl))
    (of_decide_eq_true (ck_of cc 10 rfl))
    (of_decide_eq_true (ck_of cc 11 rfl))
    (of_decide_eq_true (ck_of cc 12 rfl))
    (of_decide_eq_true (ck_of cc 13 rfl))
    (of_decide_eq_true (ck_of cc 14 rfl))
    (of_decide_eq_true (ck_of cc 15 rfl))
    xl1
    (of_decide_eq_true (ck_of cc 17 rfl))
    (of_decide_eq_true (ck_of cc 18 rfl))
    (of_decide_eq_true (ck_of cc 19 rfl))
    (of_decide_eq_true (ck_of cc 20 rfl))
    lx1
    cx1
    kx1
    (of_decide_eq_true (ck_of cc 21 rfl))
    (of_decide_eq_true (ck_of cc 22 rfl))
    (of_decide_eq_true (ck_of cc 23 rfl))
    (of_decide_eq_true (ck_of cc 24 rfl))
    (of_decide_eq_true (ck_of cc 25 rfl))
    (of_decide_eq_true (ck_of cc 26 rfl))
    (of_decide_eq_true (ck_of cc 27 rfl))
    (of_decide_eq_true (ck_of cc 28 rfl))
    (of_decide_eq_true (ck_of cc 29 rfl))
    (of_decide_eq_true (ck_of cc 30 rfl))
    (of_decide_eq_true (ck_of cc 31 rfl))
    (of_decide_eq_true (ck_of cc 32 rfl))
    (of_decide_eq_true (ck_of cc 33 rfl))
    (of_decide_eq_true (ck_of cc 34 rfl))
    (of_decide_eq_true (ck_of cc 35 rfl))
    (of_decide_eq_true (ck_of cc 36 rfl))
    (of_decide_eq_true (ck_of cc 37 rfl))
    (of_decide_eq_true (ck_of cc 38 rfl))
    (of_decide_eq_true (ck_of cc 39 rfl))
    (of_decide_eq_true (ck_of cc 40 rfl))
    (of_decide_eq_true (ck_of cc 41 rfl))
    (of_decide_eq_true (ck_of cc 42 rfl))
    l0
    c0
    k0
    (of_decide_eq_true (ck_of cc 43 rfl))
    l1
    c1
    k1
    (of_decide_eq_true (ck_of cc 44 rfl))
    l2
    c2
    k2
    (of_decide_eq_true (ck_of cc 45 rfl))
    l3
    c3
    k3
    (of_decide_eq_true (ck_of cc 46 rfl))
    l4
    c4
    k4
    (of_decide_eq_true (ck_of cc 47 rfl))
    l5
    c5
    k5
    (of_decide_eq_true (ck_of cc 48 rfl))
    l6
    c6
    k6
    (of_decide_eq_true (ck_of cc 49 rfl))
    l7
    c7
    k7
    (of_decide_eq_true (ck_of cc 50 rfl))
    l8
    c8
    k8
    (of_decide_eq_true (ck_of cc 51 rfl))
    l9
    c9
    k9
    (of_decide_eq_true (ck_of cc 52 rfl))
    l10
    c10
    k10
    (of_decide_eq_true (ck_of cc 53 rfl))
    l11
    c11
    k11
    (of_decide_eq_true (ck_of cc 54 rfl))
    l12
    c12
    k12
    (of_decide_eq_true (ck_of cc 55 rfl))
    l13
    c13
    k13
    (of_decide_eq_true (ck_of cc 56 rfl))
    l14
    c14
    k14
    (of_decide_eq_true (ck_of cc 57 rfl))
    l15
    c15
    k15
    (of_decide_eq_true (ck_of cc 58 rfl))
    l16
    c16
    k16
    (of_decide_eq_true (ck_of cc 59 rfl))
    l17
    c17
    k17
    (of_decide_eq_true (ck_of cc 60 rfl))
    l18
    c18
    k18
    (of_decide_eq_true (ck_of cc 61 rfl))
    l19
    c19
    k19
    (of_decide_eq_true (ck_of cc 62 rfl))
    l20
    c20
    k20
    (of_decide_eq_true (ck_of cc 63 rfl))
    l21
    c21
    k21
    (of_decide_eq_true (ck_of cc 64 rfl))
    l22
    c22
    k22
    (of_decide_eq_true (ck_of cc 65 rfl))
    l23
    c23
    k23
    (of_decide_eq_true (ck_of cc 66 rfl))
    l24
    c24
    k24
    (of_decide_eq_true (ck_of cc 67 rfl))
    (of_decide_eq_true (ck_of cc 68 rfl))
    (of_decide_eq_true (ck_of cc 69 rfl))
    (of_decide_eq_true (ck_of cc 70 rfl))
    (of_decide_eq_true (ck_of cc 71 rfl))
    (of_decide_eq_true (ck_of cc 72 rfl))
    (of_decide_eq_true (ck_of cc 73 rfl))
    (of_decide_eq_true (ck_of cc 74 rfl))
    (of_decide_eq_true (ck_of cc 75 rfl))
    (of_decide_eq_true (ck_of cc 76 rfl))
    q_DEEPEST
    q_MOST_PARTS
    q_MOST_WITHIN
    (of_decide_eq_true (ck_of cc 80 rfl))
    (fun H => tupB_ok (ck_of (f := fun K => tupB K "NO" [.str "no"]) cc 81 rfl) H)
    (of_decide_eq_true (ck_of cc 82 rfl))
    (fun H => tupB_ok (ck_of (f := fun K => tupB K "YES" [.str "yes"]) cc 83 rfl) H)
    (of_decide_eq_true (ck_of cc 84 rfl))
    gk0
    gi0
    (of_decide_eq_true (ck_of cc 85 rfl))
    (of_decide_eq_true (ck_of cc 86 rfl))
    (of_decide_eq_true (ck_of cc 87 rfl))
    (of_decide_eq_true (ck_of cc 88 rfl))
end Lw
open PySem PySem.W PyProof.Rows
set_option maxHeartbeats 0 in
theorem PySem.Challenge.cw_eachalone_k75_whole_words_said_twice_holds : PySem.Challenge.rw_eachalone_k75_whole_words_said_twice.Holds := by
  w_on; o_law
  refine HandSHeadRun.head_any (r := PySem.W.OpenLaw.row PySem.Challenge.rw_eachalone_k75_whole_words_said_twice) (q := PySem.W.view (PySem.W.OpenLaw.row PySem.Challenge.rw_eachalone_k75_whole_words_said_twice).prog [38]) (H := Lw.hHk) (ob := Lw.hOb) (M := 30000) (loose := Lw.hNames) (d := HandSHeadRun.topDef (PySem.W.OpenLaw.row PySem.Challenge.rw_eachalone_k75_whole_words_said_twice).prog 38) (kwd := []) Lw.hOb_eq
    (by kernel_rfl) (fun s => by kernel_rfl) Lw.hRun (by kernel_rfl) (by kernel_rfl) (by kernel_rfl) (by rfl) (by first | assumption | decide +kernel) (by decide +kernel) ⟨rfl, rfl, rfl, rfl, rfl, by decide +kernel⟩ ?hw ?hc
  case hw => w_witness2
  case hc =>
    refine Vi.walkE (l := PySem.Challenge.rw_eachalone_k75_whole_words_said_twice) (n := 63) (k := 22) (x := "_law_script") (m := Lw.m_law) rfl (by decide) (by kernel_rfl) ⟨rfl, by decide, by decide⟩ ?F Lw.law_true
    intro w mg fa h Y G hmg0
    obtain ⟨K, KX, c⟩ := Y
    have hmg : mg ("law" : PySem.Str) = some (.ref fa) := by
      have e : (HandSHeadRun.topDef (PySem.W.OpenLaw.row PySem.Challenge.rw_eachalone_k75_whole_words_said_twice).prog 38).name = ("law" : PySem.Str) := by kernel_rfl
      rw [← e]
      exact hmg0
    obtain ⟨c2, fd, hb, hF⟩ := Lw.hFacts (l := PySem.Challenge.rw_eachalone_k75_whole_words_said_twice) (w := w) KX G hmg c
    exact ⟨K, c2, fd, KX, hb, hF⟩
end
